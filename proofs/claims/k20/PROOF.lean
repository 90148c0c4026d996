import PyProof.Rows.All
import Wide.All
import OpenK.AllK
import Wide.FinOn
import HandS.ForMost
import HandS.ExcOwn
import HandS.TryOnly
import HandS.TryMany
import HandS.Lambda
import HandS.EndTab
import HandS.IsInst
import HandS.Wide
import HandS.Flow
import HandS.CallLocal
import HandS.TupMul
import HandS.TupAny
import HandS.Style
import HandS.SortInts
import HandS.SortRule
import PyProof.TupleOfSeq
import HandS.More
import HandS.Zip
import HandS.ExcIs
import KE.GoesMore
import KE.GoesEnum
import PyProof.EnumMake
import HandS.SetFor
import HandS.Conv
import HandS.Iter
import HandS.DictComp
import KE.IntBitsLaws
import PySem.Challenge.RW_riskhouse_k20_whole_curves_of_survival
set_option Elab.async false
set_option linter.all false
set_option maxRecDepth 100000
set_option maxHeartbeats 4000000
namespace Rk
open PySem PySem.Spec PyProof.Rows L2

/-! ### plain values -/
inductive PV where
  | non
  | bl (b : Bool)
  | int (i : Int)
  | str (x : Str)
  | tup (xs : List PV)
  | lst (xs : List PV)
  | dct (kvs : List (Key × PV))
  | tok (a c : Addr)
  | fn (k : Nat)
  | scr (ns : List Int)

/-- ghost: what will not change any more, the hands (object, its list of cells) -/
structure Gh where
  G : Hp
  T : List (Addr × Addr)
  /-- the error that is held, its class -/
  E : Option (Addr × Nat)
  /-- what a def was handed to call -/
  F : Option Addr

structure Cfg where
  K : PySem.W.Frag
  fa : Nat → Option Addr
  ca : Nat → Option Addr
  HK : Hp → Addr → Addr → Prop
  Tb : List (Addr × Str)
  hk : ∀ H H' a c, HK H a c → H' a = H a → H' c = H c → HK H' a c
  hl : ∀ H a c, HK H a c → (∃ xs, H a = some (.lst xs)) ∧ (∃ xs, H c = some (.lst xs)) ∧ a ≠ c

mutual
def RP (C : Cfg) (g : Gh) : PV → V → Prop
  | .non, v => v = .non
  | .bl b, v => v = .bl b
  | .int i, v => v = .int i
  | .str s, v => v = .str s
  | .tup xs, v => ∃ a vs, v = .ref a ∧ SqT C.K g.G a vs ∧ RPs C g xs vs
  | .lst xs, v => ∃ a vs, v = .ref a ∧ g.G a = some (.lst vs) ∧ RPs C g xs vs
  | .dct kvs, v => ∃ a vs o, v = .ref a ∧ g.G a = some (.frz o (.dK vs)) ∧ RPk C g kvs vs
  | .tok a c, v => v = .ref a ∧ (a, c) ∈ g.T
  | .fn k, v => ∃ a, C.fa k = some a ∧ v = .ref a
  | .scr ns, v => ∃ a, v = .ref a ∧ SqL C.K g.G a (ns.map V.int)
def RPs (C : Cfg) (g : Gh) : List PV → List V → Prop
  | [], vs => vs = []
  | x :: xs, vs => ∃ v r, vs = v :: r ∧ RP C g x v ∧ RPs C g xs r
def RPk (C : Cfg) (g : Gh) : List (Key × PV) → List (Key × V) → Prop
  | [], vs => vs = []
  | (k, x) :: xs, vs => ∃ v r, vs = (k, v) :: r ∧ RP C g x v ∧ RPk C g xs r
end

structure Le (g g' : Gh) : Prop where
  G : ∀ a o, g.G a = some o → g'.G a = some o
  T : ∀ p, p ∈ g.T → p ∈ g'.T
theorem Le.refl (g : Gh) : Le g g := ⟨fun _ _ h => h, fun _ h => h⟩
theorem Le.trans {g g1 g2 : Gh} (a : Le g g1) (b : Le g1 g2) : Le g g2 := ⟨fun x o h => b.G x o (a.G x o h), fun p h => b.T p (a.T p h)⟩

theorem rd_up {G H : Hp} {a : Addr} {u : HO} (e : ∀ b o, G b = some o → H b = some o) (h : Rd G a u) : Rd H a u := by
  rcases h with h | ⟨o, h⟩
  · exact .inl (e _ _ h)
  · exact .inr ⟨o, e _ _ h⟩
theorem sql_up {K : PySem.W.Frag} {G H : Hp} {a : Addr} {xs : List V} (e : ∀ b o, G b = some o → H b = some o) (h : SqL K G a xs) : SqL K H a xs := h.imp (rd_up e) id
theorem sqt_up {K : PySem.W.Frag} {G H : Hp} {a : Addr} {xs : List V} (e : ∀ b o, G b = some o → H b = some o) (h : SqT K G a xs) : SqT K H a xs := h.imp (rd_up e) id

section
variable {C : Cfg}
mutual
theorem RP.up {g g' : Gh} (l : Le g g') : ∀ (x : PV) (v : V), RP C g x v → RP C g' x v
  | .non, v, h => h
  | .bl _, v, h => h
  | .int _, v, h => h
  | .str _, v, h => h
  | .fn _, v, h => h
  | .scr ns, v, h => by
    obtain ⟨a, e, s⟩ := h
    exact ⟨a, e, sql_up l.G s⟩
  | .tok a c, v, h => ⟨h.1, l.T _ h.2⟩
  | .tup xs, v, h => by
    obtain ⟨a, vs, e, s, r⟩ := h
    exact ⟨a, vs, e, sqt_up l.G s, RPs.up l xs vs r⟩
  | .lst xs, v, h => by
    obtain ⟨a, vs, e, s, r⟩ := h
    exact ⟨a, vs, e, l.G _ _ s, RPs.up l xs vs r⟩
  | .dct xs, v, h => by
    obtain ⟨a, vs, o, e, s, r⟩ := h
    exact ⟨a, vs, o, e, l.G _ _ s, RPk.up l xs vs r⟩
theorem RPs.up {g g' : Gh} (l : Le g g') : ∀ (xs : List PV) (vs : List V), RPs C g xs vs → RPs C g' xs vs
  | [], _, h => h
  | x :: xs, _, h => by
    obtain ⟨v, r, e, h1, h2⟩ := h
    exact ⟨v, r, e, RP.up l x v h1, RPs.up l xs r h2⟩
theorem RPk.up {g g' : Gh} (l : Le g g') : ∀ (xs : List (Key × PV)) (vs : List (Key × V)), RPk C g xs vs → RPk C g' xs vs
  | [], _, h => h
  | (k, x) :: xs, _, h => by
    obtain ⟨v, r, e, h1, h2⟩ := h
    exact ⟨v, r, e, RP.up l x v h1, RPk.up l xs r h2⟩
end

theorem RPs.nil {g : Gh} : RPs C g [] [] := rfl
theorem RPs.cons {g : Gh} {x : PV} {xs : List PV} {v : V} {vs : List V} (h : RP C g x v) (t : RPs C g xs vs) : RPs C g (x :: xs) (v :: vs) := ⟨v, vs, rfl, h, t⟩
theorem RPs.len {g : Gh} : ∀ {xs : List PV} {vs : List V}, RPs C g xs vs → xs.length = vs.length
  | [], _, h => by rw [h]; rfl
  | x :: xs, _, h => by
    obtain ⟨v, r, rfl, _, h2⟩ := h
    simp [RPs.len h2]
theorem RPs.get {g : Gh} : ∀ {xs : List PV} {vs : List V} {i : Nat} {x : PV}, RPs C g xs vs → xs[i]? = some x → ∃ v, vs[i]? = some v ∧ RP C g x v
  | [], _, _, _, _, e => by simp at e
  | y :: ys, _, 0, x, h, e => by
    obtain ⟨v, r, rfl, h1, _⟩ := h
    simp only [List.getElem?_cons_zero, Option.some.injEq] at e
    subst e
    exact ⟨v, rfl, h1⟩
  | y :: ys, _, i + 1, x, h, e => by
    obtain ⟨v, r, rfl, _, h2⟩ := h
    obtain ⟨w, e1, e2⟩ := RPs.get (i := i) h2 (by simpa using e)
    exact ⟨w, by simpa using e1, e2⟩
theorem RPs.app {g : Gh} : ∀ {xs ys : List PV} {vs ws : List V}, RPs C g xs vs → RPs C g ys ws → RPs C g (xs ++ ys) (vs ++ ws)
  | [], _, _, _, h, t => by
    rw [h]
    exact t
  | x :: xs, _, _, _, h, t => by
    obtain ⟨v, r, rfl, h1, h2⟩ := h
    exact ⟨v, _, rfl, h1, RPs.app h2 t⟩
theorem RPs.put {g : Gh} {x : PV} {v : V} (hx : RP C g x v) : ∀ {xs : List PV} {vs : List V} (i : Nat), RPs C g xs vs → RPs C g (xs.set i x) (vs.set i v)
  | [], _, _, h => by
    rw [h]
    rfl
  | y :: ys, _, 0, h => by
    obtain ⟨w, r, rfl, _, h2⟩ := h
    exact ⟨v, r, rfl, hx, h2⟩
  | y :: ys, _, i + 1, h => by
    obtain ⟨w, r, rfl, h1, h2⟩ := h
    exact ⟨w, _, rfl, h1, RPs.put hx i h2⟩
theorem RPs.drop {g : Gh} : ∀ {xs : List PV} {vs : List V} (n : Nat), RPs C g xs vs → RPs C g (xs.drop n) (vs.drop n)
  | _, _, 0, h => h
  | [], _, n + 1, h => by
    rw [h]
    rfl
  | x :: xs, _, n + 1, h => by
    obtain ⟨v, r, rfl, _, h2⟩ := h
    exact RPs.drop n h2
theorem RPs.take {g : Gh} : ∀ {xs : List PV} {vs : List V} (n : Nat), RPs C g xs vs → RPs C g (xs.take n) (vs.take n)
  | _, _, 0, _ => rfl
  | [], _, n + 1, h => by
    rw [h]
    rfl
  | x :: xs, _, n + 1, h => by
    obtain ⟨v, r, rfl, h1, h2⟩ := h
    exact ⟨v, _, rfl, h1, RPs.take n h2⟩
theorem RPs.rev {g : Gh} : ∀ {xs : List PV} {vs : List V}, RPs C g xs vs → RPs C g xs.reverse vs.reverse
  | [], _, h => by
    rw [h]
    rfl
  | x :: xs, _, h => by
    obtain ⟨v, r, rfl, h1, h2⟩ := h
    rw [List.reverse_cons, List.reverse_cons]
    exact RPs.app (RPs.rev h2) (RPs.cons h1 RPs.nil)

/-! ### the world and its steps -/
structure W0 (C : Cfg) (g : Gh) (H : Hp) : Prop where
  sub : ∀ a o, g.G a = some o → H a = some o
  ntb : ∀ a ps, g.G a ≠ some (.tbl ps)
  tab : LamX.Tabs C.Tb H
  tok : ∀ p, p ∈ g.T → C.HK H p.1 p.2 ∧ g.G p.1 = none ∧ g.G p.2 = none
  dj : ∀ p q, p ∈ g.T → q ∈ g.T → p = q ∨ (p.1 ≠ q.1 ∧ p.1 ≠ q.2 ∧ p.2 ≠ q.1 ∧ p.2 ≠ q.2)

def Free (T : List (Addr × Addr)) (a : Addr) : Prop := ∀ p, p ∈ T → a ≠ p.1 ∧ a ≠ p.2

/-- nothing stands there, but a table of code objects may -/
def Nt (H : Hp) (a : Addr) : Prop := ∀ o, H a = some o → ∃ ps, o = .tbl ps
theorem Nt.of {H : Hp} {a : Addr} (h : H a = none) : Nt H a := fun o e => by rw [h] at e; cases e
theorem Nt.no {H : Hp} {a : Addr} {o : HO} (n : Nt H a) (e : H a = some o) (nt : ∀ ps, o ≠ .tbl ps) : False := let ⟨ps, h⟩ := n o e; nt ps h
structure Step (C : Cfg) (g : Gh) (H : Hp) (g' : Gh) (H' : Hp) : Prop where
  le : Le g g'
  w : W0 C g' H'
  dom : ∀ a, Nt H' a → Nt H a
  frame : ∀ a o, H a = some o → (∀ ps, o ≠ .tbl ps) → Free g.T a → H' a = some o
  new : ∀ a o, g'.G a = some o → g.G a = none → Nt H a
  newT : ∀ p, p ∈ g'.T → p ∈ g.T ∨ (Nt H p.1 ∧ Nt H p.2)
  E : g'.E = g.E
  F : g'.F = g.F

theorem Step.refl {g : Gh} {H : Hp} (w : W0 C g H) : Step C g H g H :=
  ⟨Le.refl g, w, fun _ h => h, fun _ _ h _ _ => h, fun a o h n => (by rw [n] at h; cases h), fun p h => .inl h, rfl, rfl⟩

theorem Step.trans {g g1 g2 : Gh} {H H1 H2 : Hp} (a : Step C g H g1 H1) (b : Step C g1 H1 g2 H2) : Step C g H g2 H2 where
  le := a.le.trans b.le
  w := b.w
  dom := fun x h => a.dom x (b.dom x h)
  frame := fun x o h nt fr => by
    refine b.frame x o (a.frame x o h nt fr) nt fun p hp => ?_
    rcases a.newT p hp with q | ⟨q1, q2⟩
    · exact fr p q
    · refine ⟨fun z => ?_, fun z => ?_⟩
      · exact q1.no (by rw [← z]; exact h) nt
      · exact q2.no (by rw [← z]; exact h) nt
  new := fun x o h n => by
    cases e : g1.G x with
    | none => exact a.dom x (b.new x o h e)
    | some u => exact a.new x u e n
  newT := fun p hp => by
    rcases b.newT p hp with q | ⟨q1, q2⟩
    · exact a.newT p q
    · exact .inr ⟨a.dom _ q1, a.dom _ q2⟩
  E := b.E.trans a.E
  F := b.F.trans a.F

/-- something not tracked before is laid, and may be frozen at once -/
def Gh.put (g : Gh) (p : Addr) (o : HO) : Gh := ⟨upd g.G p o, g.T, g.E, g.F⟩

theorem W0.none_of {g : Gh} {H : Hp} (w : W0 C g H) {p : Addr} (n : H p = none) : g.G p = none := by
  cases e : g.G p with
  | none => rfl
  | some o => rw [w.sub _ _ e] at n; cases n
theorem W0.free_new {g : Gh} {H : Hp} (w : W0 C g H) {p : Addr} (n : H p = none) : Free g.T p := fun q hq => by
  obtain ⟨⟨x1, h1⟩, ⟨x2, h2⟩, _⟩ := C.hl _ _ _ (w.tok q hq).1
  refine ⟨fun z => ?_, fun z => ?_⟩
  · rw [z, h1] at n; cases n
  · rw [z, h2] at n; cases n

theorem tabs_upd {T : List (Addr × Str)} {H : Hp} {p : Addr} {o : HO} (t : LamX.Tabs T H) (n : H p = none) : LamX.Tabs T (upd H p o) :=
  t.ext fun b u e => by rw [upd_ne (ne_of_none e n)]; exact e

/-- a new object, not frozen -/
theorem Step.lay {g : Gh} {H : Hp} {p : Addr} {o : HO} (w : W0 C g H) (n : H p = none) : Step C g H g (upd H p o) := by
  have fr := w.free_new n
  refine ⟨Le.refl g, ⟨fun a u e => ?_, w.ntb, tabs_upd w.tab n, fun q hq => ?_, w.dj⟩, fun a h => ?_, fun a u h _ _ => ?_, fun a u h n' => ?_, fun q h => .inl h, rfl, rfl⟩
  · have e' := w.sub a u e
    rw [upd_ne (ne_of_none e' n)]
    exact e'
  · obtain ⟨h1, h2⟩ := w.tok q hq
    obtain ⟨f1, f2⟩ := fr q hq
    exact ⟨C.hk _ _ _ _ h1 (upd_ne (Ne.symm f1)) (upd_ne (Ne.symm f2)), h2⟩
  · by_cases e : a = p
    · rw [e]; exact .of n
    · exact fun u hu => h u (by rw [upd_ne e]; exact hu)
  · rw [upd_ne (ne_of_none h n)]; exact h
  · rw [n'] at h; cases h
/-- a new object, frozen -/
theorem Step.layF {g : Gh} {H : Hp} {p : Addr} {o : HO} (w : W0 C g H) (n : H p = none) (nt : ∀ ps, o ≠ .tbl ps) : Step C g H (g.put p o) (upd H p o) := by
  have fr := w.free_new n
  have nG := w.none_of n
  refine ⟨⟨fun a u e => ?_, fun q h => h⟩, ⟨fun a u e => ?_, fun a ps e => ?_, tabs_upd w.tab n, fun q hq => ?_, w.dj⟩, fun a h => ?_, fun a u h _ _ => ?_, fun a u h n' => ?_, fun q h => .inl h, rfl, rfl⟩
  · show upd g.G p o a = some u
    rw [upd_ne (ne_of_none e nG)]; exact e
  · have e : upd g.G p o a = some u := e
    by_cases z : a = p
    · subst z; rw [upd_same] at e ⊢; exact e
    · rw [upd_ne z] at e ⊢; exact w.sub a u e
  · have e : upd g.G p o a = some (.tbl ps) := e
    by_cases z : a = p
    · subst z; rw [upd_same] at e; exact nt ps (Option.some.inj e)
    · rw [upd_ne z] at e; exact w.ntb a ps e
  · obtain ⟨h1, h2, h3⟩ := w.tok q hq
    obtain ⟨f1, f2⟩ := fr q hq
    refine ⟨C.hk _ _ _ _ h1 (upd_ne (Ne.symm f1)) (upd_ne (Ne.symm f2)), ?_, ?_⟩
    · show upd g.G p o q.1 = none
      rw [upd_ne (Ne.symm f1)]; exact h2
    · show upd g.G p o q.2 = none
      rw [upd_ne (Ne.symm f2)]; exact h3
  · by_cases e : a = p
    · rw [e]; exact .of n
    · exact fun u hu => h u (by rw [upd_ne e]; exact hu)
  · rw [upd_ne (ne_of_none h n)]; exact h
  · have h : upd g.G p o a = some u := h
    by_cases z : a = p
    · rw [z]; exact .of n
    · rw [upd_ne z, n'] at h; cases h
end
end Rk

set_option maxHeartbeats 4000000
namespace Rk
open PySem PySem.Spec PyProof.Rows L2

/-! ### the names of a def -/
inductive Slot where
  | un
  | fz (p : PV)
  | ol (xs : List PV)
  | od (kvs : List (Key × PV))
  | ex (c : Nat)
  | th

def Slot.own : Slot → Bool
  | .ol _ => true
  | .od _ => true
  | _ => false

def SlotOk (C : Cfg) (H0 : Hp) (g : Gh) (H : Hp) : Slot → Option (Option V) → Prop
  | .un, _ => True
  | .fz p, s => ∃ v, s = some (some v) ∧ RP C g p v
  | .ol xs, s => ∃ a vs, s = some (some (.ref a)) ∧ H a = some (.lst vs) ∧ RPs C g xs vs ∧ g.G a = none ∧ Nt H0 a ∧ Free g.T a
  | .od kvs, s => ∃ a vs, s = some (some (.ref a)) ∧ H a = some (.dK vs) ∧ RPk C g kvs vs ∧ g.G a = none ∧ Nt H0 a ∧ Free g.T a
  | .ex c, s => ∃ a, s = some (some (.ref a)) ∧ g.E = some (a, c)
  | .th, s => ∃ f, s = some (some (.ref f)) ∧ g.F = some f

abbrev Env' := List Slot

structure Rel (C : Cfg) (g0 : Gh) (H0 : Hp) (g : Gh) (H : Hp) (ρ : Env') (σ : L2.St) : Prop where
  step : Step C g0 H0 g H
  len : ρ.length = σ.length
  at_ : ∀ (i : Nat) s, ρ[i]? = some s → SlotOk C H0 g H s σ[i]?
  inj : ∀ (i j : Nat) s t (a : Addr), ρ[i]? = some s → ρ[j]? = some t → s.own = true → t.own = true → σ[i]? = some (some (.ref a)) → σ[j]? = some (some (.ref a)) → i = j

section
variable {C : Cfg} {g0 g g' : Gh} {H0 H H' : Hp} {ρ : Env'} {σ : L2.St}

theorem Free.step (s : Step C g H g' H') {a : Addr} {o : HO} (h : H a = some o) (nt : ∀ ps, o ≠ .tbl ps) (f : Free g.T a) : Free g'.T a := fun p hp => by
  rcases s.newT p hp with q | ⟨q1, q2⟩
  · exact f p q
  · refine ⟨fun z => ?_, fun z => ?_⟩
    · exact q1.no (by rw [← z]; exact h) nt
    · exact q2.no (by rw [← z]; exact h) nt
theorem Step.none_own (s : Step C g H g' H') {a : Addr} {o : HO} (h : H a = some o) (nt : ∀ ps, o ≠ .tbl ps) (n : g.G a = none) : g'.G a = none := by
  cases e : g'.G a with
  | none => rfl
  | some u => exact ((s.new a u e n).no h nt).elim

theorem SlotOk.go (s : Step C g H g' H') {x : Slot} {v : Option (Option V)} (h : SlotOk C H0 g H x v) : SlotOk C H0 g' H' x v := by
  cases x with
  | un => trivial
  | fz p =>
    obtain ⟨w, e, r⟩ := h
    exact ⟨w, e, RP.up s.le p w r⟩
  | ol xs =>
    obtain ⟨a, vs, e, h1, h2, h3, h4, h5⟩ := h
    exact ⟨a, vs, e, s.frame a _ h1 (fun ps z => by cases z) h5, RPs.up s.le xs vs h2, s.none_own h1 (fun ps z => by cases z) h3, h4, Free.step s h1 (fun ps z => by cases z) h5⟩
  | od xs =>
    obtain ⟨a, vs, e, h1, h2, h3, h4, h5⟩ := h
    exact ⟨a, vs, e, s.frame a _ h1 (fun ps z => by cases z) h5, RPk.up s.le xs vs h2, s.none_own h1 (fun ps z => by cases z) h3, h4, Free.step s h1 (fun ps z => by cases z) h5⟩
  | ex c =>
    obtain ⟨a, e, h⟩ := h
    exact ⟨a, e, by rw [s.E]; exact h⟩
  | th =>
    obtain ⟨f, e, h⟩ := h
    exact ⟨f, e, by rw [s.F]; exact h⟩

theorem Rel.go (r : Rel C g0 H0 g H ρ σ) (s : Step C g H g' H') : Rel C g0 H0 g' H' ρ σ :=
  ⟨r.step.trans s, r.len, fun i x e => (r.at_ i x e).go s, r.inj⟩

theorem Rel.w (r : Rel C g0 H0 g H ρ σ) : W0 C g H := r.step.w

theorem Rel.var (r : Rel C g0 H0 g H ρ σ) {i : Nat} {p : PV} (e : ρ[i]? = some (.fz p)) : ∃ v, σ[i]? = some (some v) ∧ RP C g p v := r.at_ i _ e

/-- a name is set to a value -/
theorem Rel.set (r : Rel C g0 H0 g H ρ σ) (i : Nat) {p : PV} {v : V} (h : RP C g p v) : Rel C g0 H0 g H (ρ.set i (.fz p)) (σ.set i (some v)) := by
  refine ⟨r.step, by simpa using r.len, fun j x e => ?_, fun j k x y a e1 e2 o1 o2 s1 s2 => ?_⟩
  · by_cases hj : i = j
    · subst hj
      by_cases hi : i < ρ.length
      · rw [List.getElem?_set_self hi] at e
        cases e
        exact ⟨v, List.getElem?_set_self (by rw [← r.len]; exact hi), h⟩
      · rw [List.getElem?_eq_none (by simpa using hi)] at e
        cases e
    · rw [List.getElem?_set_ne hj] at e ⊢
      exact r.at_ j x e
  · have ne : ∀ {j x}, (ρ.set i (.fz p))[j]? = some x → x.own = true → i ≠ j := fun {j x} e o z => by
      subst z
      by_cases hi : i < ρ.length
      · rw [List.getElem?_set_self hi] at e
        cases e
        cases o
      · rw [List.getElem?_eq_none (by simpa using hi)] at e
        cases e
    have n1 := ne e1 o1
    have n2 := ne e2 o2
    rw [List.getElem?_set_ne n1] at e1 s1
    rw [List.getElem?_set_ne n2] at e2 s2
    exact r.inj j k x y a e1 e2 o1 o2 s1 s2
/-- a name is forgotten -/
theorem Rel.unset (r : Rel C g0 H0 g H ρ σ) (i : Nat) (s : Option V) : Rel C g0 H0 g H (ρ.set i .un) (σ.set i s) := by
  refine ⟨r.step, by simpa using r.len, fun j x e => ?_, fun j k x y a e1 e2 o1 o2 s1 s2 => ?_⟩
  · by_cases hj : i = j
    · subst hj
      by_cases hi : i < ρ.length
      · rw [List.getElem?_set_self hi] at e
        cases e
        trivial
      · rw [List.getElem?_eq_none (by simpa using hi)] at e
        cases e
    · rw [List.getElem?_set_ne hj] at e ⊢
      exact r.at_ j x e
  · have ne : ∀ {j x}, (ρ.set i .un)[j]? = some x → x.own = true → i ≠ j := fun {j x} e o z => by
      subst z
      by_cases hi : i < ρ.length
      · rw [List.getElem?_set_self hi] at e
        cases e
        cases o
      · rw [List.getElem?_eq_none (by simpa using hi)] at e
        cases e
    have n1 := ne e1 o1
    have n2 := ne e2 o2
    rw [List.getElem?_set_ne n1] at e1 s1
    rw [List.getElem?_set_ne n2] at e2 s2
    exact r.inj j k x y a e1 e2 o1 o2 s1 s2
/-- an address that is new stands at no owning name -/
theorem Rel.fresh_own (r : Rel C g0 H0 g H ρ σ) {a : Addr} (n : Nt H a) {j : Nat} {x : Slot} (e : ρ[j]? = some x) (o : x.own = true) : σ[j]? ≠ some (some (.ref a)) := fun z => by
  have q := r.at_ j x e
  cases x with
  | un => cases o
  | fz p => cases o
  | ol xs =>
    obtain ⟨b, vs, e1, h1, _⟩ := q
    rw [z] at e1
    cases e1
    exact n.no h1 fun ps z => by cases z
  | od xs =>
    obtain ⟨b, vs, e1, h1, _⟩ := q
    rw [z] at e1
    cases e1
    exact n.no h1 fun ps z => by cases z
  | ex c => cases o
  | th => cases o
/-- a name is set to a list (a dict) of its own, that stands at a since now -/
theorem Rel.setOwn (r : Rel C g0 H0 g H ρ σ) (i : Nat) {s : Slot} {a : Addr} (hs : s.own = true) (ok : ∀ s', s' = some (some (V.ref a)) → SlotOk C H0 g H s s')
    (na : ∀ (j : Nat) x, ρ[j]? = some x → x.own = true → j ≠ i → σ[j]? ≠ some (some (.ref a))) : Rel C g0 H0 g H (ρ.set i s) (σ.set i (some (.ref a))) := by
  refine ⟨r.step, by simpa using r.len, fun j x e => ?_, fun j k x y b e1 e2 o1 o2 s1 s2 => ?_⟩
  · by_cases hj : i = j
    · subst hj
      by_cases hi : i < ρ.length
      · rw [List.getElem?_set_self hi] at e
        cases e
        exact ok _ (List.getElem?_set_self (by rw [← r.len]; exact hi))
      · rw [List.getElem?_eq_none (by simpa using hi)] at e
        cases e
    · rw [List.getElem?_set_ne hj] at e ⊢
      exact r.at_ j x e
  · have at1 : ∀ {j x}, (ρ.set i s)[j]? = some x → i = j ∨ (i ≠ j ∧ ρ[j]? = some x) := fun {j x} e => by
      by_cases z : i = j
      · exact .inl z
      · rw [List.getElem?_set_ne z] at e
        exact .inr ⟨z, e⟩
    have self : ∀ {b : Addr}, (σ.set i (some (V.ref a)))[i]? = some (some (.ref b)) → b = a := fun {b} e => by
      by_cases hi : i < σ.length
      · rw [List.getElem?_set_self hi] at e
        cases e
        rfl
      · rw [List.getElem?_eq_none (by simpa using hi)] at e
        cases e
    rcases at1 e1 with z1 | ⟨n1, e1⟩
    · rcases at1 e2 with z2 | ⟨n2, e2⟩
      · rw [← z1, ← z2]
      · rw [← z1] at s1
        have q := self s1
        subst q
        rw [List.getElem?_set_ne n2] at s2
        exact absurd s2 (na k y e2 o2 (Ne.symm n2))
    · rw [List.getElem?_set_ne n1] at s1
      rcases at1 e2 with z2 | ⟨n2, e2⟩
      · rw [← z2] at s2
        have q := self s2
        subst q
        exact absurd s1 (na j x e1 o1 (Ne.symm n1))
      · rw [List.getElem?_set_ne n2] at s2
        exact r.inj j k x y b e1 e2 o1 o2 s1 s2
/-- a list (a dict) of a name's own is written: the world, then the name -/
theorem Step.write {o o' : HO} {a : Addr} (s : Step C g0 H0 g H) (h : H a = some o) (nt : ∀ ps, o ≠ .tbl ps) (nx : ∀ φ, o ≠ .ext φ) (n0 : Nt H0 a) (nG : g.G a = none) (f : Free g.T a) : Step C g0 H0 g (upd H a o') := by
  refine ⟨s.le, ⟨fun b u e => ?_, s.w.ntb, fun p hp => ?_, fun q hq => ?_, s.w.dj⟩, fun b e => ?_, fun b u e nt' fr => ?_, s.new, s.newT, s.E, s.F⟩
  · have ne : b ≠ a := fun z => by rw [z, nG] at e; cases e
    rw [upd_ne ne]
    exact s.w.sub b u e
  · obtain ⟨ps, h1, h2, h3⟩ := s.w.tab p hp
    refine ⟨ps, ?_, h2, fun pos cv hc => ?_⟩
    · rw [upd_ne (fun z => nt ps (by rw [z, h] at h1; exact Option.some.inj h1))]
      exact h1
    · obtain ⟨c, e1, e2⟩ := h3 pos cv hc
      refine ⟨c, e1, ?_⟩
      by_cases z : c = a
      · rw [z, h] at e2
        exact absurd (Option.some.inj e2) (nx _)
      · rw [upd_ne z]
        exact e2
  · obtain ⟨h1, h2⟩ := s.w.tok q hq
    obtain ⟨f1, f2⟩ := f q hq
    exact ⟨C.hk _ _ _ _ h1 (upd_ne (Ne.symm f1)) (upd_ne (Ne.symm f2)), h2⟩
  · by_cases z : b = a
    · rw [z]; exact n0
    · exact s.dom b fun u hu => e u (by rw [upd_ne z]; exact hu)
  · have ne : b ≠ a := fun z => n0.no (by rw [← z]; exact e) nt'
    rw [upd_ne ne]
    exact s.frame b u e nt' fr
end
/-! ### tables of plain values -/
def dg (kvs : List (Key × PV)) (k : Key) : Option PV := (kvs.find? fun z => decide (z.1 = k)).map Prod.snd
def dp (kvs : List (Key × PV)) (k : Key) (p : PV) : List (Key × PV) := if (dg kvs k).isSome then kvs.map (fun z => if z.1 = k then (z.1, p) else z) else kvs ++ [(k, p)]
def keyP : Key → PV
  | .inl i => .int i
  | .inr s => .str s
section
variable {C : Cfg} {g : Gh}
theorem dg_cons (z : Key × PV) (r : List (Key × PV)) (k : Key) : dg (z :: r) k = if z.1 = k then some z.2 else dg r k := by
  by_cases h : z.1 = k <;> simp [dg, List.find?_cons, h]
theorem RPk.at_ {k : Key} : ∀ {xs : List (Key × PV)} {vs : List (Key × V)}, RPk C g xs vs → (∀ p, dg xs k = some p → ∃ v, valV vs k = some v ∧ RP C g p v) ∧ (dg xs k = none → valV vs k = none)
  | [], _, h => by
    have h : _ = [] := h
    subst h
    exact ⟨fun p e => (by cases e), fun _ => rfl⟩
  | (j, x) :: xs, _, h => by
    obtain ⟨v, r, rfl, h1, h2⟩ := h
    have ih := RPk.at_ (k := k) h2
    rw [dg_cons]
    by_cases e : j = k
    · rw [valV_pos (p := (j, v)) e, if_pos e]
      exact ⟨fun p q => ⟨v, rfl, (by cases q; exact h1)⟩, fun q => (by cases q)⟩
    · rw [valV_neg (p := (j, v)) e, if_neg e]
      exact ih
theorem RPk.len : ∀ {xs : List (Key × PV)} {vs : List (Key × V)}, RPk C g xs vs → xs.length = vs.length
  | [], _, h => by rw [h]; rfl
  | (j, x) :: xs, _, h => by
    obtain ⟨v, r, rfl, _, h2⟩ := h
    simp [RPk.len h2]
theorem RPk.app : ∀ {xs ys : List (Key × PV)} {vs ws : List (Key × V)}, RPk C g xs vs → RPk C g ys ws → RPk C g (xs ++ ys) (vs ++ ws)
  | [], _, _, _, h, t => by
    rw [h]
    exact t
  | (j, x) :: xs, _, _, _, h, t => by
    obtain ⟨v, r, rfl, h1, h2⟩ := h
    exact ⟨v, _, rfl, h1, RPk.app h2 t⟩
theorem RPk.repl {k : Key} {p : PV} {v : V} (hp : RP C g p v) : ∀ {xs : List (Key × PV)} {vs : List (Key × V)}, RPk C g xs vs → RPk C g (xs.map fun z => if z.1 = k then (z.1, p) else z) (vs.map fun z => if z.1 = k then (z.1, v) else z)
  | [], _, h => by
    rw [h]
    rfl
  | (j, x) :: xs, _, h => by
    obtain ⟨u, r, rfl, h1, h2⟩ := h
    have ih := RPk.repl (k := k) hp h2
    simp only [List.map_cons]
    by_cases e : j = k
    · rw [if_pos e, if_pos e]
      exact ⟨v, _, rfl, hp, ih⟩
    · rw [if_neg e, if_neg e]
      exact ⟨u, _, rfl, h1, ih⟩
theorem RPk.put {k : Key} {p : PV} {v : V} (hp : RP C g p v) {xs : List (Key × PV)} {vs : List (Key × V)} (h : RPk C g xs vs) : RPk C g (dp xs k p) (putK vs k v) := by
  have a := h.at_ (k := k)
  unfold dp putK
  rw [valV_any]
  cases e : dg xs k with
  | none =>
    rw [a.2 e]
    exact RPk.app h ⟨v, [], rfl, hp, rfl⟩
  | some q =>
    obtain ⟨u, e2, _⟩ := a.1 q e
    rw [e2]
    exact RPk.repl hp h
theorem RPk.get : ∀ {xs : List (Key × PV)} {vs : List (Key × V)} {i : Nat} {z : Key × PV}, RPk C g xs vs → xs[i]? = some z → ∃ v, vs[i]? = some (z.1, v) ∧ RP C g z.2 v
  | [], _, _, _, _, e => by simp at e
  | (j, x) :: xs, _, 0, z, h, e => by
    obtain ⟨v, r, rfl, h1, _⟩ := h
    simp only [List.getElem?_cons_zero, Option.some.injEq] at e
    subst e
    exact ⟨v, rfl, h1⟩
  | (j, x) :: xs, _, i + 1, z, h, e => by
    obtain ⟨v, r, rfl, _, h2⟩ := h
    obtain ⟨w, e1, e2⟩ := RPk.get (i := i) h2 (by simpa using e)
    exact ⟨w, by simpa using e1, e2⟩
theorem keyP_v {k : Key} {v : V} (h : RP C g (keyP k) v) : v = kV k := by
  cases k with
  | inl i => exact h
  | inr s => exact h
theorem keyP_r (k : Key) : RP C g (keyP k) (kV k) := by
  cases k with
  | inl i => exact rfl
  | inr s => exact rfl
end
end Rk

set_option maxHeartbeats 4000000
namespace Rk
open PySem PySem.Spec PyProof.Rows L2

/-! ### resolved syntax -/
inductive Bop where
  | add | sub | mul | fdv | mod | pow
  deriving DecidableEq
inductive Cop where
  | eq | ne | lt | le | gt | ge | is | nis | isin | nin
  deriving DecidableEq
inductive Ty where
  | int | bool | str | tuple | list | dict
  deriving DecidableEq
inductive Blt where
  | len | sum | min | max | abs | int | str | tuple | list | sorted | all | any | repr | dict
  deriving DecidableEq
inductive Tg where
  | nm (i : Nat)
  | tp (ts : Tg)
  | nil
  | cons (a b : Tg)
inductive Ex where
  | var (i : Nat) | own (i : Nat) | non | tt (b : Bool) | int (i : Int) | str (s : Str) | con (c : Nat) | fnv (k : Nat)
  | neg (a : Ex) | not (a : Ex)
  | bin (op : Bop) (a b : Ex) | cmp (op : Cop) (a b : Ex) | cmp2 (o1 o2 : Cop) (a b c : Ex)
  | and (a b : Ex) | or (a b : Ex) | one (a : Ex)
  | ite (c a b : Ex)
  | call (k : Nat) (as : Ex) | callv (i m : Nat) (as : Ex)
  | blt (f : Blt) (as : Ex)
  | isi (a : Ex) (ts : List Ty)
  | idx (a b : Ex) | slc (a lo hi : Ex) | rev (a : Ex)
  | tup (as : Ex) | lst (as : Ex)
  | comp (tg : Tg) (src cnd elt : Ex) (own : List Nat)
  | rng1 (a : Ex) | rng2 (a b : Ex) | rng3 (a b c : Ex) | zip (a b : Ex) | enum (a : Ex) | trg (m : Bool) (lo hi : Ex)
  | lix (a b : Ex) | cnt (a b : Ex) | dnew
  | dgt (a k x : Ex) | dvw (b : Bool) (a : Ex) | dco (tg : Tg) (src cnd ky vl : Ex) (own : List Nat) | dd1 (k v : Ex)
  | isx (i : Nat) (c : Option Nat) | lam (k : Nat) (b : Ex) | thk (i : Nat)
  | nil | cons (a b : Ex)
def Ex.isNil : Ex → Bool
  | .nil => true
  | _ => false
def needTup : Ex → Bool
  | .zip _ _ => true
  | .enum _ => true
  | .dvw true _ => true
  | _ => false
inductive Sx where
  | nil | seq (a b : Sx)
  | pass | brk | cnt
  | set (own : Bool) (i : Nat) (x : Ex)
  | setD (i : Nat)
  | frz (i : Nat)
  | unp (tg : Tg) (x : Ex)
  | par (m : Bool) (i : Nat) (a : Ex) (n : Bool) (j : Nat) (b : Ex)
  | par3 (i : Nat) (a : Ex) (j : Nat) (b : Ex) (k : Nat) (c : Ex)
  | aug (op : Bop) (i : Nat) (x : Ex)
  | app (i : Nat) (x : Ex) | appP (i j : Nat) (x : Ex) | popS (i j : Nat) | ext (i : Nat) (x : Ex) | sto (i : Nat) (k x : Ex) | stoD (i : Nat) (k x : Ex)
  | exp (x : Ex)
  | ite (c : Ex) (a b : Sx)
  | for_ (tg : Tg) (src : Ex) (body : Sx)
  | whl (c : Ex) (body : Sx)
  | ret (x : Ex) | retN | rse (c : Nat) | dead
  | tri (x : Ex) (c i : Nat) (s : Sx)

/-! ### what is done with values -/
structure Exn where
  cls : Nat
  arg : Option PV

mutual
def PV.data : PV → PyData
  | .non => .none
  | .bl b => .bool b
  | .int i => .int i
  | .str x => .str x
  | .tup xs => .tuple (PV.datas xs)
  | .lst xs => .list (PV.datas xs)
  | .dct _ => .dict []
  | .tok _ _ => .none
  | .fn _ => .none
  | .scr _ => .none
def PV.datas : List PV → List PyData
  | [] => []
  | x :: xs => x.data :: PV.datas xs
end
mutual
/-- data without dicts -/
def PV.plain : PV → Bool
  | .non => true
  | .bl _ => true
  | .int _ => true
  | .str _ => true
  | .tup xs => PV.plains xs
  | .lst xs => PV.plains xs
  | .dct _ => false
  | .tok _ _ => false
  | .fn _ => false
  | .scr _ => false
def PV.plains : List PV → Bool
  | [] => true
  | x :: xs => x.plain && PV.plains xs
end
def PV.shp (p : PV) : Bool := p.plain && SeqAt.shaped p.data
def PV.eqv (a b : PV) : Bool := PyData.eqv a.data b.data
def PV.flat : PV → Bool
  | .non => true
  | .bl _ => true
  | .int _ => true
  | .str _ => true
  | _ => false
def PV.isTy : PV → Ty → Bool
  | .int _, .int => true
  | .bl _, .int => true
  | .bl _, .bool => true
  | .str _, .str => true
  | .tup _, .tuple => true
  | .lst _, .list => true
  | .dct _, .dict => true
  | _, _ => false
def PV.known : PV → Bool
  | .tok _ _ => false
  | .fn _ => false
  | .scr _ => false
  | _ => true
def cutA {α : Type} (xs : List α) (lo hi : Option Int) : List α := (xs.drop (HT.sIx xs.length 0 lo)).take (HT.sIx xs.length xs.length hi - HT.sIx xs.length 0 lo)

def truthW (p : PV) (Q : Bool → Prop) : Prop := match p with
  | .non => Q false
  | .bl b => Q b
  | .int i => Q (i != 0)
  | .str s => s.length ≤ sizeLine ∧ Q ((s.length : Int) != 0)
  | .tup xs => Q (!xs.isEmpty)
  | .lst xs => Q (!xs.isEmpty)
  | _ => False
def binW (op : Bop) (a b : PV) (Q : PV → Prop) : Prop := match op, a, b with
  | .add, .int i, .int j => Q (.int (i + j))
  | .add, .str x, .str y => x.length + y.length ≤ sizeLine ∧ Q (.str (x ++ y))
  | .add, .lst xs, .lst ys => xs.length + ys.length ≤ sizeLine ∧ Q (.lst (xs ++ ys))
  | .add, .tup xs, .tup ys => xs.length + ys.length ≤ sizeLine ∧ Q (.tup (xs ++ ys))
  | .sub, .int i, .int j => Q (.int (i - j))
  | .mul, .int i, .int j => IntMulOk i j ∧ Q (.int (i * j))
  | .mul, .lst xs, .int j => j < 2 ^ 40 ∧ -(2 ^ 40) < j ∧ xs.length * j.toNat ≤ sizeLine ∧ Q (.lst (List.replicate j.toNat xs).flatten)
  | .mul, .tup xs, .int j => xs ≠ [] ∧ (-1000 ≤ j ∧ j ≤ 1000) ∧ xs.length ≤ 1000 ∧ Q (.tup (List.replicate j.toNat xs).flatten)
  | .fdv, .int i, .int j => j ≠ 0 ∧ j.natAbs.log2 < 9000 ∧ Q (.int (i.fdiv j))
  | .mod, .int i, .int j => j ≠ 0 ∧ Q (.int (i.fmod j))
  | .pow, .int i, .int j => CPow i j ∧ Q (.int (i ^ j.toNat))
  | _, _, _ => False
def keyW (p : PV) (Q : Key → Prop) : Prop := match p with
  | .int i => Q (.inl i)
  | .str s => Q (.inr s)
  | _ => False
def dctW (p : PV) (Q : List (Key × PV) → Prop) : Prop := match p with
  | .dct kvs => Q kvs
  | _ => False
def cmpW (op : Cop) (a b : PV) (Q : Bool → Prop) : Prop := match op, a, b with
  | .eq, a, b => a.shp = true ∧ b.shp = true ∧ Q (a.eqv b)
  | .ne, a, b => a.shp = true ∧ b.shp = true ∧ Q (!a.eqv b)
  | .lt, .int i, .int j => Q (decide (i < j))
  | .le, .int i, .int j => Q (decide (i ≤ j))
  | .gt, .int i, .int j => Q (decide (j < i))
  | .ge, .int i, .int j => Q (decide (j ≤ i))
  | .is, a, .non => Q (match a with | .non => true | _ => false)
  | .nis, a, .non => Q (match a with | .non => false | _ => true)
  | .is, .bl a, .bl b => Q (decide (a = b))
  | .nis, .bl a, .bl b => Q (!decide (a = b))
  | .isin, a, .tup xs => a.flat = true ∧ xs.all PV.flat = true ∧ Q (xs.any fun x => x.eqv a)
  | .isin, a, .lst xs => a.flat = true ∧ xs.all PV.flat = true ∧ Q (xs.any fun x => x.eqv a)
  | .isin, a, .dct kvs => keyW a fun k => Q (dg kvs k).isSome
  | .nin, a, .dct kvs => keyW a fun k => Q (!(dg kvs k).isSome)
  | .nin, a, .tup xs => a.flat = true ∧ xs.all PV.flat = true ∧ Q (!xs.any fun x => x.eqv a)
  | .nin, a, .lst xs => a.flat = true ∧ xs.all PV.flat = true ∧ Q (!xs.any fun x => x.eqv a)
  | _, _, _ => False
def idxW (a b : PV) (Q : PV → Prop) : Prop := match a, b with
  | .tup xs, .int i => match atI xs i with
    | some v => Q v
    | none => False
  | .lst xs, .int i => match atI xs i with
    | some v => Q v
    | none => False
  | .dct kvs, .int i => match dg kvs (.inl i) with
    | some v => Q v
    | none => False
  | .dct kvs, .str i => match dg kvs (.inr i) with
    | some v => Q v
    | none => False
  | _, _ => False
def intsOf : List PV → Option (List Int)
  | [] => some []
  | .int i :: r => (intsOf r).map (i :: ·)
  | _ :: _ => none
def boolsOf : List PV → Option (List Bool)
  | [] => some []
  | .bl i :: r => (boolsOf r).map (i :: ·)
  | _ :: _ => none
def onSome {α : Type} (o : Option α) (Q : α → Prop) : Prop := match o with
  | some a => Q a
  | none => False
def seqOf : PV → Option (List PV)
  | .tup xs => some xs
  | .lst xs => some xs
  | _ => none
def lenW (as : List PV) (Q : PV → Prop) : Prop := match as with
  | [.tup xs] => Q (.int xs.length)
  | [.lst xs] => Q (.int xs.length)
  | [.str s] => s.length ≤ sizeLine ∧ Q (.int s.length)
  | [.dct xs] => Q (.int xs.length)
  | [.scr ns] => Q (.int ns.length)
  | _ => False
def intsW (as : List PV) (Q : List Int → Prop) : Prop := match as with
  | [.lst xs] => onSome (intsOf xs) Q
  | _ => False
def sumW (as : List PV) (Q : List Int → Prop) : Prop := match as with
  | [.lst xs] => onSome (intsOf xs) Q
  | [.tup xs] => onSome (intsOf xs) Q
  | _ => False
def pairsOf : List PV → Option (List (Int × Int))
  | [] => some []
  | .tup [.int i, .int j] :: r => (pairsOf r).map ((i, j) :: ·)
  | _ :: _ => none
def prV (p : Int × Int) : PV := .tup [.int p.1, .int p.2]
def leQ (p q : Int × Int) : Prop := p.1 < q.1 ∨ p.1 = q.1 ∧ p.2 ≤ q.2
def sq1 : List PV → Option (List PV)
  | [.lst xs] => some xs
  | [.tup xs] => some xs
  | _ => none
def keysI : List (Key × PV) → Option (List Int)
  | [] => some []
  | (.inl i, _) :: r => (keysI r).map (i :: ·)
  | _ :: _ => none
def srtW (xs : List PV) (Q : PV → Prop) : Prop := match intsOf xs with
  | some ns => ∀ ns' : List Int, ns'.Perm ns → ns'.Pairwise (· ≤ ·) → Q (.lst (ns'.map .int))
  | none => onSome (pairsOf xs) fun ps => ∀ qs : List (Int × Int), qs.Perm ps → qs.Pairwise leQ → Q (.lst (qs.map prV))
def sortW (as : List PV) (Q : PV → Prop) : Prop := match as with
  | [.dct kvs] => onSome (keysI kvs) fun ns => ns.length < 64 ∧ ∀ ns' : List Int, ns'.Perm ns → ns'.Pairwise (· ≤ ·) → Q (.lst (ns'.map .int))
  | as => onSome (sq1 as) fun xs => srtW xs Q
def boolsW (as : List PV) (Q : List Bool → Prop) : Prop := match as with
  | [.lst xs] => onSome (boolsOf xs) Q
  | _ => False
def maxW (as : List PV) (Q : PV → Prop) : Prop := match as with
  | [.int i, .int j] => Q (.int (if j > i then j else i))
  | as => sumW as fun ns => 0 < ns.length ∧ ∀ m, m ∈ ns → (∀ y, y ∈ ns → y ≤ m) → Q (.int m)
def minW (as : List PV) (Q : PV → Prop) : Prop := match as with
  | [.int i, .int j] => Q (.int (if j < i then j else i))
  | as => sumW as fun ns => 0 < ns.length ∧ ∀ m, m ∈ ns → (∀ y, y ∈ ns → m ≤ y) → Q (.int m)
def absW (as : List PV) (Q : PV → Prop) : Prop := match as with
  | [.int i] => Q (.int (if i < 0 then -i else i))
  | _ => False
def intW (as : List PV) (Q : PV → Prop) : Prop := match as with
  | [.int i] => Q (.int i)
  | [.bl b] => Q (.int (if b then 1 else 0))
  | _ => False
def tupW (as : List PV) (Q : PV → Prop) : Prop := match as with
  | [.lst xs] => Q (.tup xs)
  | [.tup xs] => Q (.tup xs)
  | _ => False
def listW (as : List PV) (Q : PV → Prop) : Prop := match as with
  | [.lst xs] => Q (.lst xs)
  | [.tup xs] => Q (.lst xs)
  | [.dct kvs] => Q (.lst (kvs.map fun z => keyP z.1))
  | _ => False
def keyO : PV → Option Key
  | .int i => some (.inl i)
  | .str s => some (.inr s)
  | _ => none
/-- pairs of a key and a value -/
def prsOf : List PV → Option (List (Key × PV))
  | [] => some []
  | .tup [k, v] :: r => (keyO k).bind fun j => (prsOf r).map ((j, v) :: ·)
  | _ :: _ => none
def mergeP (kvs more : List (Key × PV)) : List (Key × PV) := more.foldl (fun acc kv => dp acc kv.1 kv.2) kvs
def dictW (as : List PV) (Q : PV → Prop) : Prop := match as with
  | [.dct kvs] => Q (.dct kvs)
  | [.lst xs] => onSome (prsOf xs) fun kvs => Q (.dct (mergeP [] kvs))
  | _ => False
def reprW (as : List PV) (Q : PV → Prop) : Prop := match as with
  | [p] => p.plain = true ∧ p.data.showable = true ∧ p.data.depth ≤ 60 ∧ p.data.shown.length ≤ sizeLine ∧ Q (.str p.data.shown)
  | _ => False
def strW (as : List PV) (Q : PV → Prop) : Prop := match as with
  | [.int i] => i.natAbs.log2 < 1920 ∧ Q (.str (toString i))
  | _ => False
def bltW (f : Blt) (as : List PV) (Q : PV → Prop) : Prop := match f with
  | .len => lenW as Q
  | .sum => sumW as fun ns => Q (.int ns.sum)
  | .max => maxW as Q
  | .min => minW as Q
  | .abs => absW as Q
  | .int => intW as Q
  | .str => strW as Q
  | .tuple => tupW as Q
  | .list => listW as Q
  | .all => boolsW as fun bs => Q (.bl (bs.all id))
  | .any => boolsW as fun bs => Q (.bl (bs.any id))
  | .sorted => sortW as Q
  | .repr => reprW as Q
  | .dict => dictW as Q
def lixW (xs : List PV) (q : PV) (Q : PV → Prop) : Prop := q.flat = true ∧ xs.all PV.flat = true ∧ onSome (xs.findIdx? fun x => x.eqv q) fun j => Q (.int (j : Nat))
def cntW (xs : List PV) (q : PV) (Q : PV → Prop) : Prop := q.flat = true ∧ xs.all PV.flat = true ∧ Q (.int (xs.countP fun x => x.eqv q : Nat))
def lstW (p : PV) (Q : List PV → Prop) : Prop := match p with
  | .lst xs => Q xs
  | _ => False
def itemsLW (p : PV) (Q : List PV → Prop) : Prop := match p with
  | .tup xs => Q xs
  | .lst xs => Q xs
  | _ => False
def itemsW (p : PV) (Q : List PV → Prop) : Prop := match p with
  | .tup xs => Q xs
  | .lst xs => Q xs
  | .dct kvs => Q (kvs.map fun z => keyP z.1)
  | _ => False
def slcW (p : PV) (lo hi : Option Int) (Q : PV → Prop) : Prop := match p with
  | .tup xs => Q (.tup (cutA xs lo hi))
  | .lst xs => Q (.lst (cutA xs lo hi))
  | .scr ns => Q (.lst ((cutA ns lo hi).map .int))
  | _ => False
def partW (xs : List PV) (Q : Option Int → Prop) : Prop := match xs with
  | [] => Q none
  | [.int i] => Q (some i)
  | _ => False

abbrev ρE := Env' → (PV → Prop) → (Exn → Prop) → Prop
/-- what is meant: a value; an operand (a list of a name's own may stand there); a test; a slot's content (true: a list of its own); arguments; what is walked in a comprehension, in a for -/
structure Den where
  e : ρE
  o : ρE
  t : Env' → (Bool → Prop) → (Exn → Prop) → Prop
  s : Bool → Env' → (Slot → Prop) → (Exn → Prop) → Prop
  a : Env' → (List PV → Prop) → (Exn → Prop) → Prop
  b : Env' → (List PV → Prop) → (Exn → Prop) → Prop
  i : Env' → (List PV → Prop) → (Exn → Prop) → Prop
  f : Env' → (List PV → Prop) → (Exn → Prop) → Prop

def Den.ofE (e : ρE) : Den where
  e := e
  o := e
  t := fun ρ Q E => e ρ (fun p => truthW p Q) E
  s := fun b ρ Q E => if b then False else e ρ (fun p => Q (.fz p)) E
  a := fun _ _ _ => False
  b := fun _ _ _ => False
  i := fun ρ Q E => e ρ (fun p => itemsW p Q) E
  f := fun ρ Q E => e ρ (fun p => itemsW p Q) E
def asOwn (b : Bool) (p : PV) (Q : Slot → Prop) : Prop := match b with
  | true => match p with
    | .lst xs => Q (.ol xs)
    | .dct kvs => Q (.od kvs)
    | _ => False
  | false => Q (.fz p)
/-- an expression that makes a new list, if it gives one -/
def Den.ofN (e : ρE) : Den := { Den.ofE e with s := fun b ρ Q E => e ρ (fun p => asOwn b p Q) E }
def Den.ofT (t : Env' → (Bool → Prop) → (Exn → Prop) → Prop) (e : ρE) : Den := { Den.ofE e with t := t }
def Den.ofA (a b : Env' → (List PV → Prop) → (Exn → Prop) → Prop) : Den := { Den.ofE (fun _ _ _ => False) with a := a, b := b }
def Den.ofI (i : Env' → (List PV → Prop) → (Exn → Prop) → Prop) (f : Env' → (List PV → Prop) → (Exn → Prop) → Prop) : Den := { Den.ofE (fun _ _ _ => False) with i := i, f := f }

/-- a def's promise over plain values -/
structure FSpec where
  ar : Nat
  run : List PV → (PV → Prop) → (Exn → Prop) → Prop
  len : ∀ as Q E, run as Q E → as.length = ar
  mono : ∀ as (Q Q' : PV → Prop) (E E' : Exn → Prop), (∀ v, Q v → Q' v) → (∀ x, E x → E' x) → run as Q E → run as Q' E'

/-- what a def does with what it is handed to call -/
structure WSpec where
  run : ((PV → Prop) → (Exn → Prop) → Prop) → (PV → Prop) → Prop
  mono : ∀ t (Q Q' : PV → Prop), (∀ v, Q v → Q' v) → run t Q → run t Q'
structure Sig where
  Φ : Nat → FSpec
  cn : Nat → PV
  wd : Nat → WSpec
  sb : Nat → Nat → Bool
  tk : (PV → Prop) → (Exn → Prop) → Prop

def ownW (s : Option Slot) (Q : PV → Prop) : Prop := match s with
  | some (.ol xs) => Q (.lst xs)
  | some (.od kvs) => Q (.dct kvs)
  | _ => False
def varW (s : Option Slot) (Q : PV → Prop) : Prop := match s with
  | some (.fz p) => Q p
  | _ => False

def isxB (sb : Nat → Nat → Bool) (k : Nat) : Option Nat → Bool
  | none => true
  | some j => sb k j
def exW (s : Option Slot) (Q : Nat → Prop) : Prop := match s with
  | some (.ex k) => Q k
  | _ => False
def thW (s : Option Slot) (Q : Prop) : Prop := match s with
  | some .th => Q
  | _ => False
def Slot.nex : Slot → Bool
  | .ex _ => false
  | _ => true
/-- targets: one, many -/
structure Tden where
  one : PV → Env' → (Env' → Prop) → Prop
  many : List PV → Env' → (Env' → Prop) → Prop
def tgW : Tg → Tden
  | .nm i => ⟨fun p ρ Q => Q (ρ.set i (.fz p)), fun _ _ _ => False⟩
  | .tp ts => ⟨fun p ρ Q => match p with
      | .tup xs => (tgW ts).many xs ρ Q
      | _ => False, fun _ _ _ => False⟩
  | .nil => ⟨fun _ _ _ => False, fun xs ρ Q => match xs with
      | [] => Q ρ
      | _ => False⟩
  | .cons a b => ⟨fun _ _ _ => False, fun xs ρ Q => match xs with
      | x :: r => (tgW a).one x ρ fun ρ' => (tgW b).many r ρ' Q
      | [] => False⟩
def wipeR (ρ : Env') : List Nat → Env'
  | [] => ρ
  | v :: vs => (wipeR ρ vs).set v .un
/-- a comprehension's turns, from the left -/
def compW (one : PV → Env' → (Env' → Prop) → Prop) (cnd : Env' → (Bool → Prop) → Prop) (elt : Env' → (PV → Prop) → Prop) (ρ : Env') : List PV → List PV → (List PV → Prop) → Prop
  | [], acc, Q => Q acc
  | x :: xs, acc, Q => one x ρ fun ρ' => cnd ρ' fun b => if b then elt ρ' fun y => acc.length < sizeLine ∧ compW one cnd elt ρ xs (acc ++ [y]) Q else compW one cnd elt ρ xs acc Q
/-- a dict comprehension's turns -/
def dcoW (one : PV → Env' → (Env' → Prop) → Prop) (cnd : Env' → (Bool → Prop) → Prop) (ky vl : Env' → (PV → Prop) → Prop) (ρ : Env') : List PV → List (Key × PV) → (List (Key × PV) → Prop) → Prop
  | [], acc, Q => Q acc
  | x :: xs, acc, Q => one x ρ fun ρ' => cnd ρ' fun b => if b then ky ρ' fun y => keyW y fun k => vl ρ' fun z => acc.length < sizeLine ∧ dcoW one cnd ky vl ρ xs (dp acc k z) Q else dcoW one cnd ky vl ρ xs acc Q
def rngL (lo : Int) (n : Nat) : List PV := (List.range n).map fun (k : Nat) => PV.int (lo + (k : Int))
def zipL : List PV → List PV → List PV
  | x :: xs, y :: ys => .tup [x, y] :: zipL xs ys
  | _, _ => []
def enumL (k : Nat) : List PV → List PV
  | [] => []
  | x :: xs => .tup [.int (k : Int), x] :: enumL (k + 1) xs
def smallI (i : Int) : Prop := -(2 ^ 62) ≤ i ∧ i < 2 ^ 62

def negW (p : PV) (Q : PV → Prop) : Prop := match p with
  | .int i => Q (.int (-i))
  | _ => False
def blW (p : PV) (Q : Bool → Prop) : Prop := match p with
  | .bl k => Q k
  | _ => False
def fnW (p : PV) (Q : Nat → Prop) : Prop := match p with
  | .fn k => Q k
  | _ => False
def rng1W (p : PV) (Q : List PV → Prop) : Prop := match p with
  | .int j => smallI j ∧ Q (rngL 0 j.toNat)
  | _ => False
def rng2W (p q : PV) (Q : List PV → Prop) : Prop := match p, q with
  | .int i, .int j => smallI i ∧ smallI j ∧ Q (rngL i (j - i).toNat)
  | _, _ => False
/-- range(i, j, c): so many turns -/
def rngC (i c : Int) (n : Nat) : List PV := (List.range n).map fun (k : Nat) => PV.int (i + (k : Int) * c)
def cntC (i j c : Int) : Nat := (if 0 < c then (if i < j then (j - i - 1) / c + 1 else 0) else (if j < i then (i - j - 1) / (-c) + 1 else 0)).toNat
def rng3W (p q r : PV) (Q : List PV → Prop) : Prop := match p, q, r with
  | .int i, .int j, .int c => (c ≠ 0 ∧ -1000 ≤ c ∧ c ≤ 1000 ∧ -(2 ^ 30) ≤ i ∧ i < 2 ^ 30 ∧ -(2 ^ 30) ≤ j ∧ j < 2 ^ 30) ∧ Q (rngC i c (cntC i j c))
  | _, _, _ => False
def trgV (m : Bool) (xs : List PV) : PV := if m then .tup xs else .lst xs
def trgW (m : Bool) (p q : PV) (Q : PV → Prop) : Prop := match p, q with
  | .int i, .int j => (smallI i ∧ smallI j ∧ (j - i).toNat ≤ 16777216) ∧ Q (trgV m (rngL i (j - i).toNat))
  | _, _ => False
def zipW (p q : PV) (Q : List PV → Prop) : Prop := match p, q with
  | .lst xs, .lst ys => Q (zipL xs ys)
  | .tup xs, .tup ys => Q (zipL xs ys)
  | .lst xs, .tup ys => Q (zipL xs ys)
  | .tup xs, .lst ys => Q (zipL xs ys)
  | _, _ => False
def revW (p : PV) (Q : PV → Prop) : Prop := match p with
  | .lst xs => Q (.lst xs.reverse)
  | .tup xs => Q (.tup xs.reverse)
  | _ => False
def den (S : Sig) : Ex → Den
  | .var i => .ofE fun ρ Q _ => varW ρ[i]? Q
  | .own i => { e := fun _ _ _ => False, o := fun ρ Q _ => ownW ρ[i]? Q, t := fun ρ Q _ => ownW ρ[i]? fun p => truthW p Q, s := fun _ _ _ _ => False, a := fun _ _ _ => False, b := fun _ _ _ => False, i := fun ρ Q _ => ownW ρ[i]? fun p => itemsLW p Q, f := fun _ _ _ => False }
  | .non => .ofE fun _ Q _ => Q .non
  | .tt b => .ofE fun _ Q _ => Q (.bl b)
  | .int i => .ofE fun _ Q _ => Q (.int i)
  | .str s => .ofE fun _ Q _ => Q (.str s)
  | .con c => .ofE fun _ Q _ => Q (S.cn c)
  | .fnv k => .ofE fun _ Q _ => Q (.fn k)
  | .neg a => .ofE fun ρ Q E => (den S a).e ρ (fun p => negW p Q) E
  | .not a => .ofT (fun ρ Q E => (den S a).t ρ (fun b => Q (!b)) E) fun ρ Q E => (den S a).o ρ (fun p => truthW p fun b => Q (.bl (!b))) E
  | .bin op a b => .ofN fun ρ Q E => (den S a).o ρ (fun p => (den S b).o ρ (fun q => binW op p q Q) E) E
  | .cmp op a b => .ofT (fun ρ Q E => (den S a).o ρ (fun p => (den S b).o ρ (fun q => cmpW op p q Q) E) E) fun ρ Q E => (den S a).o ρ (fun p => (den S b).o ρ (fun q => cmpW op p q fun c => Q (.bl c)) E) E
  | .cmp2 o1 o2 a b c =>
    let t := fun ρ (Q : Bool → Prop) E => (den S a).o ρ (fun p => (den S b).o ρ (fun q => cmpW o1 p q fun k => if k then (den S c).o ρ (fun r => cmpW o2 q r Q) E else Q false) E) E
    .ofT t fun ρ Q E => t ρ (fun k => Q (.bl k)) E
  | .and a b => .ofT (fun ρ Q E => (den S a).t ρ (fun k => if k then (den S b).t ρ Q E else Q false) E) fun ρ Q E => (den S a).e ρ (fun p => blW p fun k => if k then (den S b).e ρ Q E else Q (.bl false)) E
  | .or a b => .ofT (fun ρ Q E => (den S a).t ρ (fun k => if k then Q true else (den S b).t ρ Q E) E) fun ρ Q E => (den S a).e ρ (fun p => blW p fun k => if k then Q (.bl true) else (den S b).e ρ Q E) E
  | .one a => .ofT (fun ρ Q E => (den S a).t ρ Q E) (den S a).e
  | .ite c a b => { Den.ofE (fun ρ Q E => (den S c).t ρ (fun k => if k then (den S a).e ρ Q E else (den S b).e ρ Q E) E) with t := fun _ _ _ => False }
  | .call k as => .ofE fun ρ Q E => (den S as).a ρ (fun ps => (S.Φ k).run ps Q E) E
  | .callv i m as => .ofE fun ρ Q E => varW ρ[i]? fun p => fnW p fun k => k < m ∧ (den S as).a ρ (fun ps => (S.Φ k).run ps Q E) E
  | .blt f as => .ofN fun ρ Q E => (den S as).b ρ (fun ps => bltW f ps Q) E
  | .isi a ts => .ofE fun ρ Q E => (den S a).o ρ (fun p => p.known = true ∧ Q (.bl (ts.any p.isTy))) E
  | .idx a b => .ofE fun ρ Q E => (den S a).o ρ (fun p => (den S b).e ρ (fun q => idxW p q Q) E) E
  | .slc a lo hi => .ofN fun ρ Q E => (den S a).o ρ (fun p => (den S lo).a ρ (fun l => partW l fun i => (den S hi).a ρ (fun h => partW h fun j => slcW p i j Q) E) E) E
  | .rev a => .ofN fun ρ Q E => (den S a).o ρ (fun p => revW p Q) E
  | .tup as => .ofE fun ρ Q E => (den S as).a ρ (fun ps => ps.length ≤ sizeLine ∧ Q (.tup ps)) E
  | .lst as => .ofN fun ρ Q E => (den S as).a ρ (fun ps => ps.length ≤ sizeLine ∧ Q (.lst ps)) E
  | .comp tg src cnd elt own => .ofN fun ρ Q E => (den S src).i ρ (fun items => compW (tgW tg).one (fun ρ' R => if cnd.isNil then R true else (den S cnd).t ρ' R fun _ => False) (fun ρ' R => (den S elt).e ρ' R fun _ => False) (wipeR ρ own) items [] fun ys => Q (.lst ys)) E
  | .rng1 a =>
    let i := fun ρ (Q : List PV → Prop) E => (den S a).e ρ (fun p => rng1W p Q) E
    .ofI i i
  | .rng2 a b =>
    let i := fun ρ (Q : List PV → Prop) E => (den S a).e ρ (fun p => (den S b).e ρ (fun q => rng2W p q Q) E) E
    .ofI i i
  | .rng3 a b c =>
    let i := fun ρ (Q : List PV → Prop) E => (den S a).e ρ (fun p => (den S b).e ρ (fun q => (den S c).e ρ (fun r => rng3W p q r Q) E) E) E
    .ofI i i
  | .trg m lo hi => .ofN fun ρ Q E => if lo.isNil then (den S hi).e ρ (fun q => trgW m (.int 0) q Q) E else (den S lo).e ρ (fun p => (den S hi).e ρ (fun q => trgW m p q Q) E) E
  | .zip a b => .ofI (fun ρ Q E => (den S a).o ρ (fun p => (den S b).o ρ (fun q => zipW p q Q) E) E)
      fun ρ Q E => (den S a).e ρ (fun p => (den S b).e ρ (fun q => zipW p q Q) E) E
  | .enum a => .ofI (fun ρ Q E => (den S a).o ρ (fun p => itemsLW p fun xs => Q (enumL 0 xs)) E)
      fun ρ Q E => (den S a).e ρ (fun p => itemsLW p fun xs => Q (enumL 0 xs)) E
  | .lix a b => .ofE fun ρ Q E => (den S a).o ρ (fun p => lstW p fun xs => (den S b).e ρ (fun q => lixW xs q Q) E) E
  | .cnt a b => .ofE fun ρ Q E => (den S a).o ρ (fun p => lstW p fun xs => (den S b).e ρ (fun q => cntW xs q Q) E) E
  | .dnew => .ofN fun _ Q _ => Q (.dct [])
  | .dgt a k x => .ofE fun ρ Q E => (den S a).o ρ (fun p => dctW p fun kvs => (den S k).e ρ (fun q => keyW q fun j => if x.isNil then Q ((dg kvs j).getD .non) else (den S x).e ρ (fun z => Q ((dg kvs j).getD z)) E) E) E
  | .dvw b a =>
    let i := fun ρ (Q : List PV → Prop) E => (den S a).e ρ (fun p => dctW p fun kvs => Q (if b then kvs.map fun z => .tup [keyP z.1, z.2] else kvs.map (·.2))) E
    .ofI i i
  | .dco tg src cnd ky vl own => .ofN fun ρ Q E => (den S src).i ρ (fun items => dcoW (tgW tg).one (fun ρ' R => if cnd.isNil then R true else (den S cnd).t ρ' R fun _ => False) (fun ρ' R => (den S ky).e ρ' R fun _ => False) (fun ρ' R => (den S vl).e ρ' R fun _ => False) (wipeR ρ own) items [] fun kvs => Q (.dct kvs)) E
  | .dd1 k v => .ofN fun ρ Q E => (den S k).e ρ (fun q => keyW q fun j => (den S v).e ρ (fun z => Q (.dct [(j, z)])) E) E
  | .isx i c => .ofE fun ρ Q _ => exW ρ[i]? fun k => Q (.bl (isxB S.sb k c))
  | .lam k b => .ofE fun ρ Q _ => (S.wd k).run (fun Q' E' => (den S b).e ρ Q' E') Q
  | .thk i => .ofE fun ρ Q E => thW ρ[i]? (∃ (Q0 : PV → Prop) (E0 : Exn → Prop), (∀ v, Q0 v → Q v) ∧ (∀ x, E0 x → E x) ∧ S.tk Q0 E0)
  | .nil => .ofA (fun _ Q _ => Q []) fun _ Q _ => Q []
  | .cons a b => .ofA (fun ρ Q E => (den S a).e ρ (fun p => (den S b).a ρ (fun ps => Q (p :: ps)) E) E) fun ρ Q E => (den S a).o ρ (fun p => (den S b).b ρ (fun ps => Q (p :: ps)) E) E

/-! ### statements -/
structure Kont where
  nx : Env' → Prop
  rt : PV → Prop
  bk : Env' → Prop
  ct : Env' → Prop
  ex : Exn → Prop
/-- behind an except suite -/
def triK (i : Nat) (K : Kont) : Kont := ⟨fun ρ' => (ρ'.set i .un).all Slot.nex = true ∧ K.nx (ρ'.set i .un), K.rt, fun _ => False, fun _ => False, fun _ => False⟩
/-- a for's turns -/
def loopW (one : PV → Env' → (Env' → Prop) → Prop) (body : Env' → Kont → Prop) (K : Kont) : List PV → Env' → Prop
  | [], ρ => K.nx ρ
  | x :: xs, ρ => one x ρ fun ρ' => body ρ' { K with nx := fun ρ2 => loopW one body K xs ρ2, ct := fun ρ2 => loopW one body K xs ρ2, bk := K.nx }
/-- a while's turns, at most so many tests -/
def whileW (c : Env' → (Bool → Prop) → (Exn → Prop) → Prop) (body : Env' → Kont → Prop) (K : Kont) : Nat → Env' → Prop
  | 0, _ => False
  | n + 1, ρ => c ρ (fun k => if k then body ρ { K with nx := fun ρ2 => whileW c body K n ρ2, ct := fun ρ2 => whileW c body K n ρ2, bk := K.nx } else K.nx ρ) K.ex
def stoW (xs : List PV) (k : PV) (p : PV) (Q : List PV → Prop) : Prop := match k with
  | .int i => match ixN xs.length i with
    | some j => Q (xs.set j p)
    | none => False
  | _ => False
def olW (s : Option Slot) (Q : List PV → Prop) : Prop := match s with
  | some (.ol xs) => Q xs
  | _ => False

/-- a list without its k-th item, and that item -/
def popW (ys : List PV) (p : PV) (Q : PV → List PV → Prop) : Prop := match p with
  | .int k => smallI k ∧ match ixN ys.length k with
    | some m => match ys[m]? with
      | some y => Q y (ys.eraseIdx m)
      | none => False
    | none => False
  | _ => False
def lastW (ys : List PV) (Q : PV → List PV → Prop) : Prop := match ys[ys.length - 1]? with
  | some y => Q y ys.dropLast
  | none => False
def odW (s : Option Slot) (Q : List (Key × PV) → Prop) : Prop := match s with
  | some (.od xs) => Q xs
  | _ => False
def wpS (S : Sig) : Sx → Env' → Kont → Prop
  | .nil, ρ, K => K.nx ρ
  | .seq a b, ρ, K => wpS S a ρ { K with nx := fun ρ' => wpS S b ρ' K }
  | .pass, ρ, K => K.nx ρ
  | .brk, ρ, K => K.bk ρ
  | .cnt, ρ, K => K.ct ρ
  | .set m i x, ρ, K => (den S x).s m ρ (fun s => K.nx (ρ.set i s)) K.ex
  | .setD i, ρ, K => K.nx (ρ.set i (.od []))
  | .frz i, ρ, K => match ρ[i]? with
    | some (.ol xs) => K.nx (ρ.set i (.fz (.lst xs)))
    | some (.od kvs) => K.nx (ρ.set i (.fz (.dct kvs)))
    | _ => False
  | .unp tg x, ρ, K => (den S x).e ρ (fun p => (tgW tg).one p ρ K.nx) K.ex
  | .par m i a n j b, ρ, K => (den S a).s m ρ (fun s => (den S b).s n ρ (fun t => K.nx ((ρ.set i s).set j t)) K.ex) K.ex
  | .par3 i a j b k c, ρ, K => (den S a).e ρ (fun p => (den S b).e ρ (fun q => (den S c).e ρ (fun r => K.nx (((ρ.set i (.fz p)).set j (.fz q)).set k (.fz r))) K.ex) K.ex) K.ex
  | .aug op i x, ρ, K => varW ρ[i]? fun p => (den S x).o ρ (fun q => match p, q with
      | .int _, .int _ => binW op p q fun r => K.nx (ρ.set i (.fz r))
      | _, _ => False) K.ex
  | .app i x, ρ, K => olW ρ[i]? fun xs => (den S x).e ρ (fun p => xs.length < sizeLine ∧ K.nx (ρ.set i (.ol (xs ++ [p])))) K.ex
  | .appP i j x, ρ, K => olW ρ[i]? fun xs => olW ρ[j]? fun ys => (den S x).e ρ (fun p => popW ys p fun y zs => xs.length < sizeLine ∧ K.nx ((ρ.set j (.ol zs)).set i (.ol (xs ++ [y])))) K.ex
  | .popS i j, ρ, K => olW ρ[j]? fun ys => lastW ys fun y zs => K.nx ((ρ.set j (.ol zs)).set i (.fz y))
  | .ext i x, ρ, K => olW ρ[i]? fun xs => (den S x).e ρ (fun p => match p with
      | .lst ys => xs.length + ys.length ≤ sizeLine ∧ K.nx (ρ.set i (.ol (xs ++ ys)))
      | _ => False) K.ex
  | .sto i k x, ρ, K => (den S x).e ρ (fun p => olW ρ[i]? fun xs => (den S k).e ρ (fun q => stoW xs q p fun ys => K.nx (ρ.set i (.ol ys))) K.ex) K.ex
  | .stoD i k x, ρ, K => (den S x).e ρ (fun p => odW ρ[i]? fun xs => (den S k).e ρ (fun q => keyW q fun j => xs.length < sizeLine ∧ K.nx (ρ.set i (.od (dp xs j p)))) K.ex) K.ex
  | .exp x, ρ, K => (den S x).e ρ (fun _ => K.nx ρ) K.ex
  | .ite c a b, ρ, K => (den S c).t ρ (fun k => if k then wpS S a ρ K else wpS S b ρ K) K.ex
  | .for_ tg src body, ρ, K => (den S src).f ρ (fun items => loopW (tgW tg).one (wpS S body) K items ρ) K.ex
  | .whl c body, ρ, K => ∃ n, whileW (den S c).t (wpS S body) K n ρ
  | .ret x, ρ, K => (den S x).e ρ K.rt K.ex
  | .retN, _, K => K.rt .non
  | .rse c, _, K => K.ex ⟨c, none⟩
  | .dead, _, _ => False
  | .tri x c i s, ρ, K => (den S x).e ρ (fun _ => K.nx ρ) fun y => y.arg = none ∧ S.sb y.cls c = true ∧ wpS S s (ρ.set i (.ex y.cls)) (triK i K)
end Rk

set_option maxHeartbeats 4000000
namespace Rk
open PySem PySem.Spec PyProof.Rows L2

section
variable {Q Q' : PV → Prop} {R R' : Bool → Prop} {L L' : List PV → Prop} {Z Z' : Slot → Prop} {E E' : Exn → Prop}
theorem truthW_mono {p : PV} (hq : ∀ v, R v → R' v) (h : truthW p R) : truthW p R' := by
  cases p <;> simp only [truthW] at h ⊢ <;> first | exact hq _ h | exact ⟨h.1, hq _ h.2⟩
theorem binW_mono {op : Bop} {a b : PV} (hq : ∀ v, Q v → Q' v) (h : binW op a b Q) : binW op a b Q' := by
  cases op <;> cases a <;> cases b <;> simp only [binW] at h ⊢ <;> first | exact hq _ h | exact ⟨h.1, hq _ h.2⟩ | exact ⟨h.1, h.2.1, hq _ h.2.2⟩ | exact ⟨h.1, h.2.1, h.2.2.1, hq _ h.2.2.2⟩
theorem keyW_mono {p : PV} {P P' : Key → Prop} (hq : ∀ v, P v → P' v) (h : keyW p P) : keyW p P' := by
  cases p <;> first | exact hq _ h | exact h
theorem dctW_mono {p : PV} {P P' : List (Key × PV) → Prop} (hq : ∀ v, P v → P' v) (h : dctW p P) : dctW p P' := by
  cases p <;> first | exact hq _ h | exact h
theorem cmpW_mono {op : Cop} {a b : PV} (hq : ∀ v, R v → R' v) (h : cmpW op a b R) : cmpW op a b R' := by
  cases op <;> cases a <;> cases b <;> simp only [cmpW] at h ⊢ <;> first | exact hq _ h | exact ⟨h.1, h.2.1, hq _ h.2.2⟩ | exact keyW_mono (fun _ => hq _) h
theorem idxW_mono {a b : PV} (hq : ∀ v, Q v → Q' v) (h : idxW a b Q) : idxW a b Q' := by
  cases a <;> cases b <;> simp only [idxW] at h ⊢ <;> (split at h <;> first | exact hq _ h | exact h.elim)
theorem onSome_mono {α : Type} {o : Option α} {P P' : α → Prop} (hq : ∀ v, P v → P' v) (h : onSome o P) : onSome o P' := by
  cases o <;> first | exact hq _ h | exact h.elim
theorem rng3W_mono {p q r : PV} {P P' : List PV → Prop} (hq : ∀ v, P v → P' v) (h : rng3W p q r P) : rng3W p q r P' := by
  cases p <;> cases q <;> cases r <;> first | exact ⟨h.1, hq _ h.2⟩ | exact h
theorem trgW_mono {m : Bool} {p q : PV} (hq : ∀ v, Q v → Q' v) (h : trgW m p q Q) : trgW m p q Q' := by
  cases p <;> cases q <;> first | exact ⟨h.1, hq _ h.2⟩ | exact h
theorem popW_at {ys : List PV} {p : PV} {P : PV → List PV → Prop} (h : popW ys p P) : ∃ k m y, p = .int k ∧ smallI k ∧ ixN ys.length k = some m ∧ ys[m]? = some y ∧ P y (ys.eraseIdx m) := by
  cases p <;> first | exact h.elim | skip
  rename_i k
  unfold popW at h
  simp only at h
  obtain ⟨hk, h⟩ := h
  split at h
  · rename_i m e
    split at h
    · rename_i y e2
      exact ⟨k, m, y, rfl, hk, e, e2, h⟩
    · exact h.elim
  · exact h.elim
theorem popW_of {ys : List PV} {k : Int} {m : Nat} {y : PV} {P : PV → List PV → Prop} (hk : smallI k) (e : ixN ys.length k = some m) (e2 : ys[m]? = some y) (h : P y (ys.eraseIdx m)) : popW ys (.int k) P := by
  unfold popW
  simp only [e, e2]
  exact ⟨hk, h⟩
theorem popW_mono {ys : List PV} {p : PV} {P P' : PV → List PV → Prop} (hq : ∀ y zs, P y zs → P' y zs) (h : popW ys p P) : popW ys p P' := by
  obtain ⟨k, m, y, rfl, hk, e, e2, h⟩ := popW_at h
  exact popW_of hk e e2 (hq _ _ h)
theorem lastW_at {ys : List PV} {P : PV → List PV → Prop} (h : lastW ys P) : ∃ y, ys[ys.length - 1]? = some y ∧ P y ys.dropLast := by
  unfold lastW at h
  split at h
  · rename_i y e
    exact ⟨y, e, h⟩
  · exact h.elim
theorem lastW_of {ys : List PV} {y : PV} {P : PV → List PV → Prop} (e : ys[ys.length - 1]? = some y) (h : P y ys.dropLast) : lastW ys P := by
  unfold lastW
  simp only [e]
  exact h
theorem lixW_mono {xs : List PV} {b : PV} (hq : ∀ v, Q v → Q' v) (h : lixW xs b Q) : lixW xs b Q' := ⟨h.1, h.2.1, onSome_mono (fun j => hq _) h.2.2⟩
theorem lstW_mono {p : PV} (hq : ∀ v, L v → L' v) (h : lstW p L) : lstW p L' := by
  cases p <;> first | exact hq _ h | exact h
theorem itemsLW_mono {p : PV} (hq : ∀ v, L v → L' v) (h : itemsLW p L) : itemsLW p L' := by
  cases p <;> simp only [itemsLW] at h ⊢ <;> exact hq _ h
theorem itemsW_mono {p : PV} (hq : ∀ v, L v → L' v) (h : itemsW p L) : itemsW p L' := by
  cases p <;> simp only [itemsW] at h ⊢ <;> exact hq _ h
theorem cntW_mono {xs : List PV} {b : PV} (hq : ∀ v, Q v → Q' v) (h : cntW xs b Q) : cntW xs b Q' := ⟨h.1, h.2.1, hq _ h.2.2⟩
theorem exW_mono {s : Option Slot} {P P' : Nat → Prop} (hq : ∀ v, P v → P' v) (h : exW s P) : exW s P' := by
  rcases s with _ | s
  · exact h
  · cases s <;> first | exact hq _ h | exact h
theorem thW_mono {s : Option Slot} {P P' : Prop} (hq : P → P') (h : thW s P) : thW s P' := by
  rcases s with _ | s
  · exact h
  · cases s <;> first | exact hq h | exact h
theorem slcW_mono {p : PV} {lo hi : Option Int} (hq : ∀ v, Q v → Q' v) (h : slcW p lo hi Q) : slcW p lo hi Q' := by
  cases p <;> simp only [slcW] at h ⊢ <;> exact hq _ h
theorem partW_mono {xs : List PV} {P P' : Option Int → Prop} (hq : ∀ v, P v → P' v) (h : partW xs P) : partW xs P' := by
  unfold partW at h ⊢
  split at h <;> first | exact hq _ h | exact h.elim
theorem asOwn_mono {b : Bool} {p : PV} (hq : ∀ v, Z v → Z' v) (h : asOwn b p Z) : asOwn b p Z' := by
  cases b <;> cases p <;> simp only [asOwn] at h ⊢ <;> exact hq _ h
theorem ownW_mono {s : Option Slot} (hq : ∀ v, Q v → Q' v) (h : ownW s Q) : ownW s Q' := by
  rcases s with _ | s
  · exact h
  · cases s <;> simp only [ownW] at h ⊢ <;> exact hq _ h
theorem varW_mono {s : Option Slot} (hq : ∀ v, Q v → Q' v) (h : varW s Q) : varW s Q' := by
  rcases s with _ | s
  · exact h
  · cases s <;> simp only [varW] at h ⊢ <;> exact hq _ h
theorem intsW_mono {as : List PV} {P P' : List Int → Prop} (hq : ∀ v, P v → P' v) (h : intsW as P) : intsW as P' := by
  unfold intsW at h ⊢
  split at h
  · exact onSome_mono hq h
  · exact h.elim
theorem srtW_mono {xs : List PV} {Q Q' : PV → Prop} (hq : ∀ v, Q v → Q' v) (h : srtW xs Q) : srtW xs Q' := by
  unfold srtW at h ⊢
  split at h
  · exact fun ns' h1 h2 => hq _ (h ns' h1 h2)
  · exact onSome_mono (fun ps h qs h1 h2 => hq _ (h qs h1 h2)) h
theorem sortW_mono {as : List PV} {Q Q' : PV → Prop} (hq : ∀ v, Q v → Q' v) (h : sortW as Q) : sortW as Q' := by
  unfold sortW at h ⊢
  split at h
  · exact onSome_mono (fun ns h => ⟨h.1, fun ns' h1 h2 => hq _ (h.2 ns' h1 h2)⟩) h
  · exact onSome_mono (fun xs h => srtW_mono hq h) h
theorem sumW_mono {as : List PV} {P P' : List Int → Prop} (hq : ∀ v, P v → P' v) (h : sumW as P) : sumW as P' := by
  unfold sumW at h ⊢
  split at h
  · exact onSome_mono hq h
  · exact onSome_mono hq h
  · exact h.elim
theorem boolsW_mono {as : List PV} {P P' : List Bool → Prop} (hq : ∀ v, P v → P' v) (h : boolsW as P) : boolsW as P' := by
  unfold boolsW at h ⊢
  split at h
  · exact onSome_mono hq h
  · exact h.elim
theorem bltW_mono {f : Blt} {as : List PV} (hq : ∀ v, Q v → Q' v) (h : bltW f as Q) : bltW f as Q' := by
  cases f with
  | len =>
    have h : lenW as Q := h
    show lenW as Q'
    unfold lenW at h ⊢
    split at h <;> first | exact hq _ h | exact ⟨h.1, hq _ h.2⟩ | exact h.elim
  | sum => exact sumW_mono (fun _ => hq _) h
  | max =>
    have h : maxW as Q := h
    show maxW as Q'
    unfold maxW at h ⊢
    split at h
    · exact hq _ h
    · exact sumW_mono (fun _ h => ⟨h.1, fun m h1 h2 => hq _ (h.2 m h1 h2)⟩) h
  | min =>
    have h : minW as Q := h
    show minW as Q'
    unfold minW at h ⊢
    split at h
    · exact hq _ h
    · exact sumW_mono (fun _ h => ⟨h.1, fun m h1 h2 => hq _ (h.2 m h1 h2)⟩) h
  | abs =>
    have h : absW as Q := h
    show absW as Q'
    unfold absW at h ⊢
    split at h <;> first | exact hq _ h | exact h.elim
  | int =>
    have h : intW as Q := h
    show intW as Q'
    unfold intW at h ⊢
    split at h <;> first | exact hq _ h | exact h.elim
  | str =>
    have h : strW as Q := h
    show strW as Q'
    unfold strW at h ⊢
    split at h <;> first | exact ⟨h.1, hq _ h.2⟩ | exact h.elim
  | tuple =>
    have h : tupW as Q := h
    show tupW as Q'
    unfold tupW at h ⊢
    split at h <;> first | exact hq _ h | exact h.elim
  | list =>
    have h : listW as Q := h
    show listW as Q'
    unfold listW at h ⊢
    split at h <;> first | exact hq _ h | exact h.elim
  | all => exact boolsW_mono (fun _ => hq _) h
  | any => exact boolsW_mono (fun _ => hq _) h
  | sorted => exact sortW_mono hq h
  | dict =>
    have h : dictW as Q := h
    show dictW as Q'
    unfold dictW at h ⊢
    split at h <;> first | exact hq _ h | exact onSome_mono (fun _ => hq _) h | exact h.elim
  | repr =>
    have h : reprW as Q := h
    show reprW as Q'
    unfold reprW at h ⊢
    split at h <;> first | exact ⟨h.1, h.2.1, h.2.2.1, h.2.2.2.1, hq _ h.2.2.2.2⟩ | exact h.elim
end

structure Den.Mono (d : Den) : Prop where
  e : ∀ {ρ} {Q Q' : PV → Prop} {E E' : Exn → Prop}, (∀ v, Q v → Q' v) → (∀ x, E x → E' x) → d.e ρ Q E → d.e ρ Q' E'
  o : ∀ {ρ} {Q Q' : PV → Prop} {E E' : Exn → Prop}, (∀ v, Q v → Q' v) → (∀ x, E x → E' x) → d.o ρ Q E → d.o ρ Q' E'
  t : ∀ {ρ} {Q Q' : Bool → Prop} {E E' : Exn → Prop}, (∀ v, Q v → Q' v) → (∀ x, E x → E' x) → d.t ρ Q E → d.t ρ Q' E'
  s : ∀ {m ρ} {Q Q' : Slot → Prop} {E E' : Exn → Prop}, (∀ v, Q v → Q' v) → (∀ x, E x → E' x) → d.s m ρ Q E → d.s m ρ Q' E'
  a : ∀ {ρ} {Q Q' : List PV → Prop} {E E' : Exn → Prop}, (∀ v, Q v → Q' v) → (∀ x, E x → E' x) → d.a ρ Q E → d.a ρ Q' E'
  b : ∀ {ρ} {Q Q' : List PV → Prop} {E E' : Exn → Prop}, (∀ v, Q v → Q' v) → (∀ x, E x → E' x) → d.b ρ Q E → d.b ρ Q' E'
  i : ∀ {ρ} {Q Q' : List PV → Prop} {E E' : Exn → Prop}, (∀ v, Q v → Q' v) → (∀ x, E x → E' x) → d.i ρ Q E → d.i ρ Q' E'
  f : ∀ {ρ} {Q Q' : List PV → Prop} {E E' : Exn → Prop}, (∀ v, Q v → Q' v) → (∀ x, E x → E' x) → d.f ρ Q E → d.f ρ Q' E'

def MonoE (e : ρE) : Prop := ∀ (ρ : Env') (Q Q' : PV → Prop) (E E' : Exn → Prop), (∀ v, Q v → Q' v) → (∀ x, E x → E' x) → e ρ Q E → e ρ Q' E'
def MonoT (t : Env' → (Bool → Prop) → (Exn → Prop) → Prop) : Prop := ∀ (ρ : Env') (Q Q' : Bool → Prop) (E E' : Exn → Prop), (∀ v, Q v → Q' v) → (∀ x, E x → E' x) → t ρ Q E → t ρ Q' E'
def MonoL (a : Env' → (List PV → Prop) → (Exn → Prop) → Prop) : Prop := ∀ (ρ : Env') (Q Q' : List PV → Prop) (E E' : Exn → Prop), (∀ v, Q v → Q' v) → (∀ x, E x → E' x) → a ρ Q E → a ρ Q' E'

theorem mono_ofE {e : ρE} (h : MonoE e) : (Den.ofE e).Mono where
  e := fun hq he => h _ _ _ _ _ hq he
  o := fun hq he => h _ _ _ _ _ hq he
  t := fun hq he => h _ _ _ _ _ (fun p => truthW_mono hq) he
  s := fun {m ρ Q Q' E E'} hq he x => by
    have x : if m then False else e ρ (fun p => Q (.fz p)) E := x
    show if m then False else e ρ (fun p => Q' (.fz p)) E'
    cases m with
    | true => exact x.elim
    | false => exact h _ _ _ _ _ (fun p => hq _) he x
  a := fun hq he x => x.elim
  b := fun hq he x => x.elim
  i := fun hq he => h _ _ _ _ _ (fun p => itemsW_mono hq) he
  f := fun hq he => h _ _ _ _ _ (fun p => itemsW_mono hq) he
theorem mono_ofN {e : ρE} (h : MonoE e) : (Den.ofN e).Mono :=
  { mono_ofE h with s := fun hq he x => h _ _ _ _ _ (fun p => asOwn_mono hq) he x }
theorem mono_ofT {t : Env' → (Bool → Prop) → (Exn → Prop) → Prop} {e : ρE} (ht : MonoT t) (h : MonoE e) : (Den.ofT t e).Mono :=
  { mono_ofE h with t := fun hq he x => ht _ _ _ _ _ hq he x }
theorem mono_ofA {a b : Env' → (List PV → Prop) → (Exn → Prop) → Prop} (ha : MonoL a) (hb : MonoL b) : (Den.ofA a b).Mono :=
  { mono_ofE (e := fun _ _ _ => False) (fun _ _ _ _ _ _ _ x => x.elim) with a := fun hq he x => ha _ _ _ _ _ hq he x, b := fun hq he x => hb _ _ _ _ _ hq he x }
theorem mono_ofI {a b : Env' → (List PV → Prop) → (Exn → Prop) → Prop} (ha : MonoL a) (hb : MonoL b) : (Den.ofI a b).Mono :=
  { mono_ofE (e := fun _ _ _ => False) (fun _ _ _ _ _ _ _ x => x.elim) with i := fun hq he x => ha _ _ _ _ _ hq he x, f := fun hq he x => hb _ _ _ _ _ hq he x }

structure Tden.Mono (d : Tden) : Prop where
  one : ∀ {p ρ} {Q Q' : Env' → Prop}, (∀ v, Q v → Q' v) → d.one p ρ Q → d.one p ρ Q'
  many : ∀ {p ρ} {Q Q' : Env' → Prop}, (∀ v, Q v → Q' v) → d.many p ρ Q → d.many p ρ Q'
theorem tgW_mono : ∀ t : Tg, (tgW t).Mono
  | .nm i => ⟨fun hq x => hq _ x, fun _ x => x.elim⟩
  | .tp ts => ⟨fun {p ρ Q Q'} hq x => by
      cases p <;> simp only [tgW] at x ⊢
      exact (tgW_mono ts).many hq x, fun _ x => x.elim⟩
  | .nil => ⟨fun _ x => x.elim, fun {p ρ Q Q'} hq x => by
      cases p <;> simp only [tgW] at x ⊢
      exact hq _ x⟩
  | .cons a b => ⟨fun _ x => x.elim, fun {p ρ Q Q'} hq x => by
      cases p <;> simp only [tgW] at x ⊢
      exact (tgW_mono a).one (fun v hv => (tgW_mono b).many hq hv) x⟩

theorem compW_mono {one one' : PV → Env' → (Env' → Prop) → Prop} {cnd cnd' : Env' → (Bool → Prop) → Prop} {elt elt' : Env' → (PV → Prop) → Prop} {ρ : Env'}
    (h1 : ∀ p ρ (Q Q' : Env' → Prop), (∀ v, Q v → Q' v) → one p ρ Q → one' p ρ Q') (h2 : ∀ ρ (Q Q' : Bool → Prop), (∀ v, Q v → Q' v) → cnd ρ Q → cnd' ρ Q') (h3 : ∀ ρ (Q Q' : PV → Prop), (∀ v, Q v → Q' v) → elt ρ Q → elt' ρ Q') :
    ∀ (xs acc : List PV) (Q Q' : List PV → Prop), (∀ v, Q v → Q' v) → compW one cnd elt ρ xs acc Q → compW one' cnd' elt' ρ xs acc Q'
  | [], _, _, _, hq, x => hq _ x
  | y :: ys, acc, Q, Q', hq, x => by
    simp only [compW] at x ⊢
    refine h1 _ _ _ _ (fun ρ' x => h2 _ _ _ (fun b x => ?_) x) x
    cases b with
    | true => exact h3 _ _ _ (fun p x => ⟨x.1, compW_mono h1 h2 h3 ys _ Q Q' hq x.2⟩) x
    | false => exact compW_mono h1 h2 h3 ys _ Q Q' hq x

theorem dcoW_mono {one one' : PV → Env' → (Env' → Prop) → Prop} {cnd cnd' : Env' → (Bool → Prop) → Prop} {ky ky' vl vl' : Env' → (PV → Prop) → Prop} {ρ : Env'}
    (h1 : ∀ p ρ (Q Q' : Env' → Prop), (∀ v, Q v → Q' v) → one p ρ Q → one' p ρ Q') (h2 : ∀ ρ (Q Q' : Bool → Prop), (∀ v, Q v → Q' v) → cnd ρ Q → cnd' ρ Q') (h3 : ∀ ρ (Q Q' : PV → Prop), (∀ v, Q v → Q' v) → ky ρ Q → ky' ρ Q') (h4 : ∀ ρ (Q Q' : PV → Prop), (∀ v, Q v → Q' v) → vl ρ Q → vl' ρ Q') :
    ∀ (xs : List PV) (acc : List (Key × PV)) (Q Q' : List (Key × PV) → Prop), (∀ v, Q v → Q' v) → dcoW one cnd ky vl ρ xs acc Q → dcoW one' cnd' ky' vl' ρ xs acc Q'
  | [], _, _, _, hq, x => hq _ x
  | y :: ys, acc, Q, Q', hq, x => by
    simp only [dcoW] at x ⊢
    refine h1 _ _ _ _ (fun ρ' x => h2 _ _ _ (fun b x => ?_) x) x
    cases b with
    | true => exact h3 _ _ _ (fun p x => keyW_mono (fun k x => h4 _ _ _ (fun z x => ⟨x.1, dcoW_mono h1 h2 h3 h4 ys _ Q Q' hq x.2⟩) x) x) x
    | false => exact dcoW_mono h1 h2 h3 h4 ys _ Q Q' hq x
theorem den_mono (S : Sig) : ∀ x : Ex, (den S x).Mono
  | .var i => mono_ofE fun ρ Q Q' E E' hq he x => varW_mono hq x
  | .own i => ⟨fun hq he x => x.elim, fun hq he x => ownW_mono hq x, fun {ρ Q Q' E E'} hq he x => ownW_mono (Q := fun p => truthW p Q) (Q' := fun p => truthW p Q') (fun p => truthW_mono hq) x, fun hq he x => x.elim, fun hq he x => x.elim, fun hq he x => x.elim, fun {ρ Q Q' E E'} hq he x => ownW_mono (Q := fun p => itemsLW p Q) (Q' := fun p => itemsLW p Q') (fun p => itemsLW_mono hq) x, fun hq he x => x.elim⟩
  | .non => mono_ofE fun ρ Q Q' E E' hq he x => hq _ x
  | .tt _ => mono_ofE fun ρ Q Q' E E' hq he x => hq _ x
  | .int _ => mono_ofE fun ρ Q Q' E E' hq he x => hq _ x
  | .str _ => mono_ofE fun ρ Q Q' E E' hq he x => hq _ x
  | .con _ => mono_ofE fun ρ Q Q' E E' hq he x => hq _ x
  | .fnv _ => mono_ofE fun ρ Q Q' E E' hq he x => hq _ x
  | .neg a => mono_ofE fun ρ Q Q' E E' hq he x => (den_mono S a).e (fun p x => by cases p <;> first | exact hq _ x | exact x) he x
  | .not a => mono_ofT (fun ρ Q Q' E E' hq he x => (den_mono S a).t (fun b => hq _) he x) fun ρ Q Q' E E' hq he x => (den_mono S a).o (fun p => truthW_mono fun b => hq _) he x
  | .bin op a b => mono_ofN fun ρ Q Q' E E' hq he x => (den_mono S a).o (fun p x => (den_mono S b).o (fun q x => binW_mono hq x) he x) he x
  | .cmp op a b => mono_ofT (fun ρ Q Q' E E' hq he x => (den_mono S a).o (fun p x => (den_mono S b).o (fun q x => cmpW_mono hq x) he x) he x)
      fun ρ Q Q' E E' hq he x => (den_mono S a).o (fun p x => (den_mono S b).o (fun q x => cmpW_mono (fun c => hq _) x) he x) he x
  | .cmp2 o1 o2 a b c => by
    have ht : MonoT (fun ρ (Q : Bool → Prop) E => (den S a).o ρ (fun p => (den S b).o ρ (fun q => cmpW o1 p q fun k => if k then (den S c).o ρ (fun r => cmpW o2 q r Q) E else Q false) E) E) :=
      fun ρ Q Q' E E' hq he x => (den_mono S a).o (fun p x => (den_mono S b).o (fun q x => cmpW_mono (fun k x => by
        cases k with
        | true => exact (den_mono S c).o (fun r x => cmpW_mono hq x) he x
        | false => exact hq _ x) x) he x) he x
    exact mono_ofT ht fun ρ Q Q' E E' hq he x => ht ρ _ _ _ _ (fun k => hq _) he x
  | .and a b => mono_ofT (fun ρ Q Q' E E' hq he x => (den_mono S a).t (fun k x => by
        cases k with
        | true => exact (den_mono S b).t hq he x
        | false => exact hq _ x) he x)
      fun ρ Q Q' E E' hq he x => (den_mono S a).e (fun p x => by
        cases p <;> first
          | exact x
          | (rename_i k
             cases k with
             | true => exact (den_mono S b).e hq he x
             | false => exact hq _ x)) he x
  | .or a b => mono_ofT (fun ρ Q Q' E E' hq he x => (den_mono S a).t (fun k x => by
        cases k with
        | false => exact (den_mono S b).t hq he x
        | true => exact hq _ x) he x)
      fun ρ Q Q' E E' hq he x => (den_mono S a).e (fun p x => by
        cases p <;> first
          | exact x
          | (rename_i k
             cases k with
             | false => exact (den_mono S b).e hq he x
             | true => exact hq _ x)) he x
  | .one a => mono_ofT (fun ρ Q Q' E E' hq he x => (den_mono S a).t hq he x) fun ρ Q Q' E E' hq he x => (den_mono S a).e hq he x
  | .ite c a b => { mono_ofE (e := fun ρ Q E => (den S c).t ρ (fun k => if k then (den S a).e ρ Q E else (den S b).e ρ Q E) E) (fun ρ Q Q' E E' hq he x => (den_mono S c).t (fun k x => by
        cases k with
        | true => exact (den_mono S a).e hq he x
        | false => exact (den_mono S b).e hq he x) he x) with t := fun hq he x => x.elim }
  | .call k as => mono_ofE fun ρ Q Q' E E' hq he x => (den_mono S as).a (fun ps x => (S.Φ k).mono _ _ _ _ _ hq he x) he x
  | .callv i m as => mono_ofE fun ρ Q Q' E E' hq he x => varW_mono (fun p x => by
        cases p <;> first | exact x | exact ⟨x.1, (den_mono S as).a (fun ps x => (S.Φ _).mono _ _ _ _ _ hq he x) he x.2⟩) x
  | .blt f as => mono_ofN fun ρ Q Q' E E' hq he x => (den_mono S as).b (fun ps x => bltW_mono hq x) he x
  | .isi a ts => mono_ofE fun ρ Q Q' E E' hq he x => (den_mono S a).o (fun p x => ⟨x.1, hq _ x.2⟩) he x
  | .idx a b => mono_ofE fun ρ Q Q' E E' hq he x => (den_mono S a).o (fun p x => (den_mono S b).e (fun q x => idxW_mono hq x) he x) he x
  | .slc a lo hi => mono_ofN fun ρ Q Q' E E' hq he x => (den_mono S a).o (fun p x => (den_mono S lo).a (fun l x => partW_mono (fun i x => (den_mono S hi).a (fun h x => partW_mono (fun j x => slcW_mono hq x) x) he x) x) he x) he x
  | .rev a => mono_ofN fun ρ Q Q' E E' hq he x => (den_mono S a).o (fun p x => by cases p <;> first | exact hq _ x | exact x) he x
  | .tup as => mono_ofE fun ρ Q Q' E E' hq he x => (den_mono S as).a (fun ps x => ⟨x.1, hq _ x.2⟩) he x
  | .lst as => mono_ofN fun ρ Q Q' E E' hq he x => (den_mono S as).a (fun ps x => ⟨x.1, hq _ x.2⟩) he x
  | .comp tg src cnd elt own => mono_ofN fun ρ Q Q' E E' hq he x => (den_mono S src).i (fun items x => by
      refine compW_mono (one := (tgW tg).one) (one' := (tgW tg).one) (elt := fun ρ' R => (den S elt).e ρ' R fun _ => False) (elt' := fun ρ' R => (den S elt).e ρ' R fun _ => False) (fun p ρ Q Q' hq x => (tgW_mono tg).one hq x) (fun ρ Q Q' hq x => ?_) (fun ρ Q Q' hq x => (den_mono S elt).e hq (fun _ x => x) x) items [] _ _ (fun ys => hq _) x
      have ih := @(den_mono S cnd).t ρ Q Q' (fun _ => False) (fun _ => False) hq fun _ x => x
      cases hn : cnd.isNil with
      | true =>
        simp only [hn, if_true] at x ⊢
        exact hq _ x
      | false =>
        simp only [hn, Bool.false_eq_true, if_false] at x ⊢
        exact ih x) he x
  | .rng1 a => by
    have h : MonoL (fun ρ (Q : List PV → Prop) E => (den S a).e ρ (fun p => match p with | .int j => smallI j ∧ Q (rngL 0 j.toNat) | _ => False) E) :=
      fun ρ Q Q' E E' hq he x => (den_mono S a).e (fun p x => by cases p <;> first | exact ⟨x.1, hq _ x.2⟩ | exact x) he x
    exact mono_ofI h h
  | .rng2 a b => by
    have h : MonoL (fun ρ (Q : List PV → Prop) E => (den S a).e ρ (fun p => (den S b).e ρ (fun q => match p, q with | .int i, .int j => smallI i ∧ smallI j ∧ Q (rngL i (j - i).toNat) | _, _ => False) E) E) :=
      fun ρ Q Q' E E' hq he x => (den_mono S a).e (fun p x => (den_mono S b).e (fun q x => by cases p <;> cases q <;> first | exact ⟨x.1, x.2.1, hq _ x.2.2⟩ | exact x) he x) he x
    exact mono_ofI h h
  | .rng3 a b c => by
    have h : MonoL (fun ρ (Q : List PV → Prop) E => (den S a).e ρ (fun p => (den S b).e ρ (fun q => (den S c).e ρ (fun r => rng3W p q r Q) E) E) E) :=
      fun ρ Q Q' E E' hq he x => (den_mono S a).e (fun p x => (den_mono S b).e (fun q x => (den_mono S c).e (fun r x => rng3W_mono hq x) he x) he x) he x
    exact mono_ofI h h
  | .trg m lo hi => mono_ofN fun ρ Q Q' E E' hq he x => by
      show if lo.isNil then _ else _
      have x : if lo.isNil then (den S hi).e ρ (fun q => trgW m (.int 0) q Q) E else (den S lo).e ρ (fun p => (den S hi).e ρ (fun q => trgW m p q Q) E) E := x
      cases hn : lo.isNil with
      | true =>
        simp only [hn, if_true] at x ⊢
        exact (den_mono S hi).e (fun q x => trgW_mono hq x) he x
      | false =>
        simp only [hn, Bool.false_eq_true, if_false] at x ⊢
        exact (den_mono S lo).e (fun p x => (den_mono S hi).e (fun q x => trgW_mono hq x) he x) he x
  | .zip a b => mono_ofI
      (fun ρ Q Q' E E' hq he x => (den_mono S a).o (fun p x => (den_mono S b).o (fun q x => by cases p <;> cases q <;> first | exact hq _ x | exact x) he x) he x)
      (fun ρ Q Q' E E' hq he x => (den_mono S a).e (fun p x => (den_mono S b).e (fun q x => by cases p <;> cases q <;> first | exact hq _ x | exact x) he x) he x)
  | .enum a => mono_ofI
      (fun ρ Q Q' E E' hq he x => (den_mono S a).o (fun p x => itemsLW_mono (fun _ => hq _) x) he x)
      (fun ρ Q Q' E E' hq he x => (den_mono S a).e (fun p x => itemsLW_mono (fun _ => hq _) x) he x)
  | .lix a b => mono_ofE fun ρ Q Q' E E' hq he x => (den_mono S a).o (fun p x => lstW_mono (fun xs x => (den_mono S b).e (fun q x => lixW_mono hq x) he x) x) he x
  | .cnt a b => mono_ofE fun ρ Q Q' E E' hq he x => (den_mono S a).o (fun p x => lstW_mono (fun xs x => (den_mono S b).e (fun q x => cntW_mono hq x) he x) x) he x
  | .dnew => mono_ofN fun ρ Q Q' E E' hq he x => hq _ x
  | .dgt a k z => mono_ofE fun ρ Q Q' E E' hq he x => (den_mono S a).o (fun p x => dctW_mono (fun kvs x => (den_mono S k).e (fun q x => keyW_mono (fun j x => by
      cases hn : z.isNil with
      | true =>
        simp only [hn, if_true] at x ⊢
        exact hq _ x
      | false =>
        simp only [hn, Bool.false_eq_true, if_false] at x ⊢
        exact (den_mono S z).e (fun _ => hq _) he x) x) he x) x) he x
  | .dvw b a => by
    have h : MonoL (fun ρ (Q : List PV → Prop) E => (den S a).e ρ (fun p => dctW p fun kvs => Q (if b then kvs.map fun z => .tup [keyP z.1, z.2] else kvs.map (·.2))) E) :=
      fun ρ Q Q' E E' hq he x => (den_mono S a).e (fun p x => dctW_mono (fun _ => hq _) x) he x
    exact mono_ofI h h
  | .dco tg src cnd ky vl own => mono_ofN fun ρ Q Q' E E' hq he x => (den_mono S src).i (fun items x => by
      refine dcoW_mono (one := (tgW tg).one) (one' := (tgW tg).one) (ky := fun ρ' R => (den S ky).e ρ' R fun _ => False) (ky' := fun ρ' R => (den S ky).e ρ' R fun _ => False) (vl := fun ρ' R => (den S vl).e ρ' R fun _ => False) (vl' := fun ρ' R => (den S vl).e ρ' R fun _ => False) (fun p ρ Q Q' hq x => (tgW_mono tg).one hq x) (fun ρ Q Q' hq x => ?_) (fun ρ Q Q' hq x => (den_mono S ky).e hq (fun _ x => x) x) (fun ρ Q Q' hq x => (den_mono S vl).e hq (fun _ x => x) x) items [] _ _ (fun ys => hq _) x
      have ih := @(den_mono S cnd).t ρ Q Q' (fun _ => False) (fun _ => False) hq fun _ x => x
      cases hn : cnd.isNil with
      | true =>
        simp only [hn, if_true] at x ⊢
        exact hq _ x
      | false =>
        simp only [hn, Bool.false_eq_true, if_false] at x ⊢
        exact ih x) he x
  | .dd1 k v => mono_ofN fun ρ Q Q' E E' hq he x => (den_mono S k).e (fun q x => keyW_mono (fun j x => (den_mono S v).e (fun _ => hq _) he x) x) he x
  | .isx i c => mono_ofE fun ρ Q Q' E E' hq he x => exW_mono (fun k => hq _) x
  | .lam k b => mono_ofE fun ρ Q Q' E E' hq he x => (S.wd k).mono _ _ _ hq x
  | .thk i => mono_ofE fun ρ Q Q' E E' hq he x => thW_mono (fun ⟨Q0, E0, h1, h2, h3⟩ => ⟨Q0, E0, fun v z => hq v (h1 v z), fun v z => he v (h2 v z), h3⟩) x
  | .nil => mono_ofA (fun ρ Q Q' E E' hq he x => hq _ x) fun ρ Q Q' E E' hq he x => hq _ x
  | .cons a b => mono_ofA
      (fun ρ Q Q' E E' hq he x => (den_mono S a).e (fun p x => (den_mono S b).a (fun ps x => hq _ x) he x) he x)
      (fun ρ Q Q' E E' hq he x => (den_mono S a).o (fun p x => (den_mono S b).b (fun ps x => hq _ x) he x) he x)

structure Kont.Le (K K' : Kont) : Prop where
  nx : ∀ ρ, K.nx ρ → K'.nx ρ
  rt : ∀ v, K.rt v → K'.rt v
  bk : ∀ ρ, K.bk ρ → K'.bk ρ
  ct : ∀ ρ, K.ct ρ → K'.ct ρ
  ex : ∀ x, K.ex x → K'.ex x
theorem stoW_mono {xs : List PV} {k p : PV} {Q Q' : List PV → Prop} (hq : ∀ v, Q v → Q' v) (h : stoW xs k p Q) : stoW xs k p Q' := by
  cases k <;> simp only [stoW] at h ⊢ <;> (split at h <;> first | exact hq _ h | exact h.elim)
theorem odW_mono {s : Option Slot} {Q Q' : List (Key × PV) → Prop} (hq : ∀ v, Q v → Q' v) (h : odW s Q) : odW s Q' := by
  rcases s with _ | s
  · exact h.elim
  · cases s <;> simp only [odW] at h ⊢
    exact hq _ h
theorem olW_mono {s : Option Slot} {Q Q' : List PV → Prop} (hq : ∀ v, Q v → Q' v) (h : olW s Q) : olW s Q' := by
  rcases s with _ | s
  · exact h.elim
  · cases s <;> simp only [olW] at h ⊢
    exact hq _ h
theorem loopW_mono {one : PV → Env' → (Env' → Prop) → Prop} (h1 : ∀ p ρ (Q Q' : Env' → Prop), (∀ v, Q v → Q' v) → one p ρ Q → one p ρ Q') {body : Env' → Kont → Prop} (hb : ∀ ρ K K', Kont.Le K K' → body ρ K → body ρ K')
    {K K' : Kont} (l : Kont.Le K K') : ∀ (xs : List PV) (ρ : Env'), loopW one body K xs ρ → loopW one body K' xs ρ
  | [], ρ, h => l.nx ρ h
  | x :: xs, ρ, h => by
    simp only [loopW] at h ⊢
    refine h1 _ _ _ _ (fun ρ' h => ?_) h
    refine hb _ _ _ ?_ h
    exact ⟨fun ρ2 h => loopW_mono h1 hb l xs ρ2 h, l.rt, l.nx, fun ρ2 h => loopW_mono h1 hb l xs ρ2 h, l.ex⟩
theorem whileW_mono {c : Env' → (Bool → Prop) → (Exn → Prop) → Prop} (hc : MonoT c) {body : Env' → Kont → Prop} (hb : ∀ ρ K K', Kont.Le K K' → body ρ K → body ρ K')
    {K K' : Kont} (l : Kont.Le K K') : ∀ (n : Nat) (ρ : Env'), whileW c body K n ρ → whileW c body K' n ρ
  | 0, ρ, h => h
  | n + 1, ρ, h => by
    simp only [whileW] at h ⊢
    refine hc _ _ _ _ _ (fun k h => ?_) l.ex h
    cases k with
    | true =>
      refine hb _ _ _ ?_ h
      exact ⟨fun ρ2 h => whileW_mono hc hb l n ρ2 h, l.rt, l.nx, fun ρ2 h => whileW_mono hc hb l n ρ2 h, l.ex⟩
    | false => exact l.nx _ h
theorem wpS_mono (S : Sig) : ∀ (x : Sx) (ρ : Env') (K K' : Kont), Kont.Le K K' → wpS S x ρ K → wpS S x ρ K'
  | .nil, ρ, K, K', l, h => l.nx _ h
  | .seq a b, ρ, K, K', l, h => by
    simp only [wpS] at h ⊢
    refine wpS_mono S a ρ _ _ ?_ h
    exact ⟨fun ρ' h => wpS_mono S b ρ' _ _ l h, l.rt, l.bk, l.ct, l.ex⟩
  | .pass, ρ, K, K', l, h => l.nx _ h
  | .brk, ρ, K, K', l, h => l.bk _ h
  | .cnt, ρ, K, K', l, h => l.ct _ h
  | .set m i x, ρ, K, K', l, h => (den_mono S x).s (fun s => l.nx _) l.ex h
  | .setD i, ρ, K, K', l, h => l.nx _ h
  | .frz i, ρ, K, K', l, h => by
    simp only [wpS] at h ⊢
    split at h <;> first | exact l.nx _ h | exact h.elim
  | .unp tg x, ρ, K, K', l, h => (den_mono S x).e (fun p h => (tgW_mono tg).one l.nx h) l.ex h
  | .par m i a n j b, ρ, K, K', l, h => (den_mono S a).s (fun s h => (den_mono S b).s (fun t => l.nx _) l.ex h) l.ex h
  | .par3 i a j b k c, ρ, K, K', l, h => (den_mono S a).e (fun p h => (den_mono S b).e (fun q h => (den_mono S c).e (fun r => l.nx _) l.ex h) l.ex h) l.ex h
  | .aug op i x, ρ, K, K', l, h => varW_mono (fun p h => (den_mono S x).o (fun q h => by
      cases p <;> cases q <;> first | exact h | exact binW_mono (fun r => l.nx _) h) l.ex h) h
  | .app i x, ρ, K, K', l, h => olW_mono (fun xs h => (den_mono S x).e (fun p h => ⟨h.1, l.nx _ h.2⟩) l.ex h) h
  | .appP i j x, ρ, K, K', l, h => olW_mono (fun xs h => olW_mono (fun ys h => (den_mono S x).e (fun p h => popW_mono (fun y zs h => ⟨h.1, l.nx _ h.2⟩) h) l.ex h) h) h
  | .popS i j, ρ, K, K', l, h => olW_mono (fun ys h => by
      obtain ⟨y, e, h⟩ := lastW_at h
      exact lastW_of e (l.nx _ h)) h
  | .ext i x, ρ, K, K', l, h => olW_mono (fun xs h => (den_mono S x).e (fun p h => by
      cases p <;> first | exact ⟨h.1, l.nx _ h.2⟩ | exact h) l.ex h) h
  | .sto i k x, ρ, K, K', l, h => (den_mono S x).e (fun p h => olW_mono (fun xs h => (den_mono S k).e (fun q h => stoW_mono (fun s => l.nx _) h) l.ex h) h) l.ex h
  | .stoD i k x, ρ, K, K', l, h => (den_mono S x).e (fun p h => odW_mono (fun xs h => (den_mono S k).e (fun q h => keyW_mono (fun j h => ⟨h.1, l.nx _ h.2⟩) h) l.ex h) h) l.ex h
  | .exp x, ρ, K, K', l, h => (den_mono S x).e (fun p => l.nx _) l.ex h
  | .ite c a b, ρ, K, K', l, h => (den_mono S c).t (fun k h => by
      cases k with
      | true => exact wpS_mono S a ρ _ _ l h
      | false => exact wpS_mono S b ρ _ _ l h) l.ex h
  | .for_ tg src body, ρ, K, K', l, h => (den_mono S src).f (fun items h => loopW_mono (one := (tgW tg).one) (fun p ρ Q Q' hq h => (tgW_mono tg).one hq h) (fun ρ K K' l h => wpS_mono S body ρ K K' l h) l items ρ h) l.ex h
  | .whl c body, ρ, K, K', l, ⟨n, h⟩ => ⟨n, whileW_mono (c := (den S c).t) (fun ρ Q Q' E E' hq he x => (den_mono S c).t hq he x) (fun ρ K K' l h => wpS_mono S body ρ K K' l h) l n ρ h⟩
  | .ret x, ρ, K, K', l, h => (den_mono S x).e l.rt l.ex h
  | .retN, ρ, K, K', l, h => l.rt _ h
  | .rse c, ρ, K, K', l, h => l.ex _ h
  | .dead, ρ, K, K', l, h => h.elim
  | .tri x c i s, ρ, K, K', l, h => (den_mono S x).e (fun _ => l.nx ρ) (fun y h => ⟨h.1, h.2.1, wpS_mono S s _ (triK i K) (triK i K') ⟨fun _ z => ⟨z.1, l.nx _ z.2⟩, l.rt, fun _ z => z, fun _ z => z, fun _ z => z⟩ h.2.2⟩) h
end Rk

set_option maxHeartbeats 4000000
namespace Rk
open PySem PySem.Spec PyProof.Rows L2

/-! ### a def's promise, where no guard runs around -/
structure FnG (P : Program) (w : World) (K : PySem.W.Frag) (mg : Str → Option Value) (base : Heap) (k : Nat) (f : Addr) (fd : FuncData) (ps : List Str) (sp : Sp) : Prop where
  len : ∀ vs H Q E, sp vs H Q E → vs.length = ps.length
  run : ∀ (A : Around) (outer : List Env) (s : Shared) (H : Hp) (args : Args) (us : List Value) (vs : List V) (Q : VK) (E : XK), Room k A → A.guards = some [] → Env0 P w K mg base A outer s H →
    BindsTo s fd args (ps.zip us) → Vals vs us → sp vs H Q E → codeAny (model P w) A (.call (.ref f) args) (CR (L2.CX P w) outer P w H s Q E) s
theorem FnG.mono {P : Program} {w : World} {K : PySem.W.Frag} {mg : Str → Option Value} {base : Heap} {j k : Nat} {f : Addr} {fd : FuncData} {ps : List Str} {sp : Sp} (F : FnG P w K mg base j f fd ps sp) (h : j ≤ k) :
    FnG P w K mg base k f fd ps sp := ⟨F.len, fun A outer s H args us vs Q E hr => F.run A outer s H args us vs Q E (hr.mono h)⟩

/-- an exception of the program -/
def RX (C : Cfg) (x : Exn) (cls : Value) (d : Option Addr) : Prop := (∃ a, C.ca x.cls = some a ∧ cls = .ref a) ∧ x.arg = none ∧ d = none

/-- no error is held, nothing was handed to call -/
def Gh.cold (g : Gh) : Prop := g.E = none ∧ g.F = none
def spOf (C : Cfg) (S : FSpec) : Sp := fun vs H Q E => ∃ g ps, g.cold ∧ W0 C g H ∧ RPs C g ps vs ∧
  S.run ps (fun p => ∀ g' H' v, Step C g H g' H' → RP C g' p v → Q v H') (fun x => ∀ g' H' cls d, Step C g H g' H' → RX C x cls d → E cls d H')

/-- an operand: a list (a dict) of a name's own may stand there -/
def RPo (C : Cfg) (g : Gh) (H : Hp) (p : PV) (v : V) : Prop := RP C g p v ∨
  (∃ a vs xs, p = .lst xs ∧ v = .ref a ∧ H a = some (.lst vs) ∧ RPs C g xs vs ∧ Free g.T a) ∨
  (∃ a vs xs, p = .dct xs ∧ v = .ref a ∧ H a = some (.dK vs) ∧ RPk C g xs vs ∧ Free g.T a)

section
variable {C : Cfg} {g0 g g' g1 g2 : Gh} {H0 H H' H1 H2 : Hp} {ρ : Env'} {σ : L2.St} {W : WX}
theorem RPo.go (s : Step C g H g' H') {p : PV} {v : V} (h : RPo C g H p v) : RPo C g' H' p v := by
  rcases h with h | ⟨a, vs, xs, e1, e2, h1, h2, h3⟩ | ⟨a, vs, xs, e1, e2, h1, h2, h3⟩
  · exact .inl (RP.up s.le _ _ h)
  · exact .inr (.inl ⟨a, vs, xs, e1, e2, s.frame _ _ h1 (fun ps z => by cases z) h3, RPs.up s.le _ _ h2, Free.step s h1 (fun ps z => by cases z) h3⟩)
  · exact .inr (.inr ⟨a, vs, xs, e1, e2, s.frame _ _ h1 (fun ps z => by cases z) h3, RPk.up s.le _ _ h2, Free.step s h1 (fun ps z => by cases z) h3⟩)
theorem RPo.lst (w : W0 C g H) {xs : List PV} {v : V} (h : RPo C g H (.lst xs) v) : ∃ a vs, v = .ref a ∧ H a = some (.lst vs) ∧ RPs C g xs vs := by
  rcases h with ⟨a, vs, e1, e2, e3⟩ | ⟨a, vs, ys, e1, e2, h1, h2, h3⟩ | ⟨a, vs, ys, e1, _⟩
  · exact ⟨a, vs, e1, w.sub _ _ e2, e3⟩
  · cases e1
    exact ⟨a, vs, e2, h1, h2⟩
  · cases e1
theorem RPo.tup (w : W0 C g H) {xs : List PV} {v : V} (h : RPo C g H (.tup xs) v) : ∃ a vs, v = .ref a ∧ SqT C.K H a vs ∧ RPs C g xs vs := by
  rcases h with ⟨a, vs, e1, e2, e3⟩ | ⟨a, vs, ys, e1, _⟩ | ⟨a, vs, ys, e1, _⟩
  · exact ⟨a, vs, e1, sqt_up w.sub e2, e3⟩
  · cases e1
  · cases e1
theorem RPo.dct (w : W0 C g H) {xs : List (Key × PV)} {v : V} (h : RPo C g H (.dct xs) v) : ∃ a vs, v = .ref a ∧ Rd H a (.dK vs) ∧ RPk C g xs vs := by
  rcases h with ⟨a, vs, o, e1, e2, e3⟩ | ⟨a, vs, ys, e1, _⟩ | ⟨a, vs, ys, e1, e2, h1, h2, h3⟩
  · exact ⟨a, vs, e1, .inr ⟨o, w.sub _ _ e2⟩, e3⟩
  · cases e1
  · cases e1
    exact ⟨a, vs, e2, .inl h1, h2⟩
theorem RPo.int {i : Int} {v : V} (h : RPo C g H (.int i) v) : v = .int i := by
  rcases h with h | ⟨a, vs, ys, e1, _⟩ | ⟨a, vs, ys, e1, _⟩
  · exact h
  · cases e1
  · cases e1
theorem RPo.bl {i : Bool} {v : V} (h : RPo C g H (.bl i) v) : v = .bl i := by
  rcases h with h | ⟨a, vs, ys, e1, _⟩ | ⟨a, vs, ys, e1, _⟩
  · exact h
  · cases e1
  · cases e1
theorem RPo.str {i : Str} {v : V} (h : RPo C g H (.str i) v) : v = .str i := by
  rcases h with h | ⟨a, vs, ys, e1, _⟩ | ⟨a, vs, ys, e1, _⟩
  · exact h
  · cases e1
  · cases e1
theorem RPo.scr (w : W0 C g H) {ns : List Int} {v : V} (h : RPo C g H (.scr ns) v) : ∃ a, v = .ref a ∧ SqL C.K H a (ns.map V.int) := by
  rcases h with ⟨a, e1, e2⟩ | ⟨a, vs, ys, e1, _⟩ | ⟨a, vs, ys, e1, _⟩
  · exact ⟨a, e1, sql_up w.sub e2⟩
  · cases e1
  · cases e1
theorem RPo.non {v : V} (h : RPo C g H .non v) : v = .non := by
  rcases h with h | ⟨a, vs, ys, e1, _⟩ | ⟨a, vs, ys, e1, _⟩
  · exact h
  · cases e1
  · cases e1

/-! ### what is asked of an expression -/
def XW (C : Cfg) (g : Gh) (H : Hp) (W : WX) (σ : L2.St) : Exn → Prop := fun x => ∀ g' H' cls d, Step C g H g' H' → RX C x cls d → W cls d σ H'
theorem XW.go (s : Step C g H g1 H1) {x : Exn} (h : XW C g H W σ x) : XW C g1 H1 W σ x := fun g' H' cls d t r => h g' H' cls d (s.trans t) r
def tE (C : Cfg) (g0 : Gh) (H0 : Hp) (W : WX) (d : ρE) : TE := fun σ H Q => ∃ g ρ, Rel C g0 H0 g H ρ σ ∧ d ρ (fun p => ∀ g' H' v, Step C g H g' H' → RP C g' p v → Q v H') (XW C g H W σ)
def tO (C : Cfg) (g0 : Gh) (H0 : Hp) (W : WX) (d : ρE) : TE := fun σ H Q => ∃ g ρ, Rel C g0 H0 g H ρ σ ∧ d ρ (fun p => ∀ g' H' v, Step C g H g' H' → RPo C g' H' p v → Q v H') (XW C g H W σ)
def tT (C : Cfg) (g0 : Gh) (H0 : Hp) (W : WX) (d : Env' → (Bool → Prop) → (Exn → Prop) → Prop) : TT := fun σ H Q => ∃ g ρ, Rel C g0 H0 g H ρ σ ∧ d ρ (fun p => ∀ g' H', Step C g H g' H' → Q p H') (XW C g H W σ)
def tA (C : Cfg) (g0 : Gh) (H0 : Hp) (W : WX) (d : Env' → (List PV → Prop) → (Exn → Prop) → Prop) : TA := fun σ H Q => ∃ g ρ, Rel C g0 H0 g H ρ σ ∧ d ρ (fun ps => ∀ g' H' vs, Step C g H g' H' → RPs C g' ps vs → Q vs H') (XW C g H W σ)
inductive RPos (C : Cfg) (g : Gh) (H : Hp) : List PV → List V → Prop
  | nil : RPos C g H [] []
  | cons {p v ps vs} : RPo C g H p v → RPos C g H ps vs → RPos C g H (p :: ps) (v :: vs)
theorem RPos.go (s : Step C g H g' H') {ps : List PV} {vs : List V} (h : RPos C g H ps vs) : RPos C g' H' ps vs := by
  induction h with
  | nil => exact .nil
  | cons a _ ih => exact .cons (a.go s) ih
def tB (C : Cfg) (g0 : Gh) (H0 : Hp) (W : WX) (d : Env' → (List PV → Prop) → (Exn → Prop) → Prop) : TA := fun σ H Q => ∃ g ρ, Rel C g0 H0 g H ρ σ ∧ d ρ (fun ps => ∀ g' H' vs, Step C g H g' H' → RPos C g' H' ps vs → Q vs H') (XW C g H W σ)
/-- a list of a name's own, or a value -/
def NewOk (C : Cfg) (g0 : Gh) (H0 : Hp) (g : Gh) (H : Hp) (H1 : Hp) (s : Slot) (v : V) : Prop := match s with
  | .fz p => RP C g p v
  | .ol xs => ∃ a vs, v = .ref a ∧ H a = some (.lst vs) ∧ RPs C g xs vs ∧ g.G a = none ∧ Nt H1 a ∧ Free g.T a
  | .od xs => ∃ a vs, v = .ref a ∧ H a = some (.dK vs) ∧ RPk C g xs vs ∧ g.G a = none ∧ Nt H1 a ∧ Free g.T a
  | _ => False
def tS (C : Cfg) (g0 : Gh) (H0 : Hp) (W : WX) (d : Env' → (Slot → Prop) → (Exn → Prop) → Prop) : TE := fun σ H Q => ∃ g ρ, Rel C g0 H0 g H ρ σ ∧ d ρ (fun s => ∀ g' H' v, Step C g H g' H' → NewOk C g0 H0 g' H' H s v → Q v H') (XW C g H W σ)

theorem tE_in {d : Den} (dm : d.Mono) (r : Rel C g0 H0 g H ρ σ) {R : PV → Prop} {E : Exn → Prop} (h : d.e ρ R E) {Q : VK}
    (hq : ∀ p g' H' v, Step C g H g' H' → Rel C g0 H0 g' H' ρ σ → RP C g' p v → R p → Q v H') (hx : ∀ x, E x → XW C g H W σ x) : tE C g0 H0 W d.e σ H Q :=
  ⟨g, ρ, r, dm.e (fun p hp g' H' v s rp => hq p g' H' v s (r.go s) rp hp) hx h⟩
theorem tO_in {d : Den} (dm : d.Mono) (r : Rel C g0 H0 g H ρ σ) {R : PV → Prop} {E : Exn → Prop} (h : d.o ρ R E) {Q : VK}
    (hq : ∀ p g' H' v, Step C g H g' H' → Rel C g0 H0 g' H' ρ σ → RPo C g' H' p v → R p → Q v H') (hx : ∀ x, E x → XW C g H W σ x) : tO C g0 H0 W d.o σ H Q :=
  ⟨g, ρ, r, dm.o (fun p hp g' H' v s rp => hq p g' H' v s (r.go s) rp hp) hx h⟩
theorem tT_in {d : Den} (dm : d.Mono) (r : Rel C g0 H0 g H ρ σ) {R : Bool → Prop} {E : Exn → Prop} (h : d.t ρ R E) {Q : Bool → Hp → Prop}
    (hq : ∀ p g' H', Step C g H g' H' → Rel C g0 H0 g' H' ρ σ → R p → Q p H') (hx : ∀ x, E x → XW C g H W σ x) : tT C g0 H0 W d.t σ H Q :=
  ⟨g, ρ, r, dm.t (fun p hp g' H' s => hq p g' H' s (r.go s) hp) hx h⟩
theorem tA_in {d : Den} (dm : d.Mono) (r : Rel C g0 H0 g H ρ σ) {R : List PV → Prop} {E : Exn → Prop} (h : d.a ρ R E) {Q : List V → Hp → Prop}
    (hq : ∀ p g' H' v, Step C g H g' H' → Rel C g0 H0 g' H' ρ σ → RPs C g' p v → R p → Q v H') (hx : ∀ x, E x → XW C g H W σ x) : tA C g0 H0 W d.a σ H Q :=
  ⟨g, ρ, r, dm.a (fun p hp g' H' v s rp => hq p g' H' v s (r.go s) rp hp) hx h⟩
theorem tB_in {d : Den} (dm : d.Mono) (r : Rel C g0 H0 g H ρ σ) {R : List PV → Prop} {E : Exn → Prop} (h : d.b ρ R E) {Q : List V → Hp → Prop}
    (hq : ∀ p g' H' v, Step C g H g' H' → Rel C g0 H0 g' H' ρ σ → RPos C g' H' p v → R p → Q v H') (hx : ∀ x, E x → XW C g H W σ x) : tB C g0 H0 W d.b σ H Q :=
  ⟨g, ρ, r, dm.b (fun p hp g' H' v s rp => hq p g' H' v s (r.go s) rp hp) hx h⟩
end

/-! ### weaker readings -/
section
variable {X : Cx} {e : Expr} {es : List Expr}
theorem pe_weak {t t' : TE} (h : PE X e t) (f : ∀ σ H Q, t' σ H Q → t σ H Q) : PE X e t' := ⟨fun pins s σ H Q I q => h.run pins s σ H Q I (f σ H Q q)⟩
theorem pt_weak {t t' : TT} (h : PT X e t) (f : ∀ σ H Q, t' σ H Q → t σ H Q) : PT X e t' := ⟨fun pins s σ H Q I q => h.run pins s σ H Q I (f σ H Q q)⟩
theorem pw_weak {t t' : TT} (h : PW X e t) (f : ∀ σ H Q, t' σ H Q → t σ H Q) : PW X e t' := ⟨fun wh pins s σ H Q I q => h.run wh pins s σ H Q I (f σ H Q q)⟩
theorem pa_weak {t t' : TA} (h : PA X es t) (f : ∀ σ H Q, t' σ H Q → t σ H Q) : PA X es t' := ⟨fun pos pins s σ H Q I q => h.run pos pins s σ H Q I (f σ H Q q)⟩
theorem ps_weak {st : Stmt} {t t' : TS} (h : PS X st t) (f : ∀ D σ H, t' D σ H → t D σ H) : PS X st t' := ⟨fun pins s σ H D I q => h.run pins s σ H D I (f D σ H q)⟩
/-- a thing may be locked ahead of what runs -/
theorem pss_lock {st : List Stmt} {t : TS} (h : PSs X st t) : PSs X st (fun D σ H => t D σ H ∨ ∃ d u, H d = some u ∧ Mut (some u) ∧ ∀ od, t D σ (upd H d (.frz od u))) := ⟨fun pins s σ H D I q => by
  rcases q with q | ⟨d, u, e, m, q⟩
  · exact h.run pins s σ H D I q
  · obtain ⟨od, I2⟩ := I.lock e m
    exact h.run pins s σ _ D I2 (q od)⟩
/-- .. or not -/
theorem pe_lock2 {e : Expr} {t : TE} (h : PE X e t) : PE X e (fun σ H Q => t σ H fun x H1 => Q x H1 ∨ ∃ d u, H1 d = some u ∧ Mut (some u) ∧ ∀ od, Q x (upd H1 d (.frz od u))) := ⟨fun pins s σ H Q I q => by
  refine thn (h.run pins s σ H _ I q) fun v s2 ⟨x, H2, I2, rx, q2⟩ => ?_
  rcases q2 with q2 | ⟨d, u, e, m, q2⟩
  · exact ⟨x, H2, I2, rx, q2⟩
  · obtain ⟨od, I3⟩ := I2.lock e m
    exact ⟨x, _, I3, rx, q2 od⟩⟩
theorem pe_lock {e : Expr} {t : TE} (h : PE X e t) : PE X e (fun σ H Q => t σ H fun x H1 => ∃ d u, H1 d = some u ∧ Mut (some u) ∧ ∀ od, Q x (upd H1 d (.frz od u))) := ⟨fun pins s σ H Q I q => by
  refine thn (h.run pins s σ H _ I q) fun v s2 ⟨x, H2, I2, rx, d, u, e, m, q2⟩ => ?_
  obtain ⟨od, I3⟩ := I2.lock e m
  exact ⟨x, _, I3, rx, q2 od⟩⟩
theorem pss_weak {st : List Stmt} {t t' : TS} (h : PSs X st t) (f : ∀ D σ H, t' D σ H → t D σ H) : PSs X st t' := ⟨fun pins s σ H D I q => h.run pins s σ H D I (f D σ H q)⟩
theorem pi_weak {tg : Expr} {t t' : TI} (h : PI X tg e t) (f : ∀ σ H R, t' σ H R → t σ H R) : PI X tg e t' := ⟨fun pins s σ H R I q => h.run pins s σ H R I (f σ H R q)⟩
end
end Rk

set_option maxHeartbeats 4000000
namespace Rk
open PySem PySem.Spec PyProof.Rows L2

/-! ### t * 1: the same tuple -/
theorem tuple_mul1 (l : Addr) (items : Array Value) (n : Nat) (dd : Option Addr) (sl : Array (Option Value)) (u : Tok) :
    Meets (Builtin.«tuple.__mul__» ⟨[.ref l, .int 1 u], []⟩) (fun _ R s => s.heap.get? l = some { cls := .type "tuple", dict := dd, data := .seq items n, slots := sl } ∧ R (.ok (.ret (Value.ref l))) s) :=
  .of_wp fun prog w A R s h => by
    obtain ⟨hp, g, d, tk, os⟩ := s
    obtain ⟨hl, h⟩ := h
    have f1 := AutoSeq1.idx_int
    have c1 : (items.isEmpty || (1 : Int) == 1) = true := by simp
    wp_walk using wpAny_loadPart' hl
    repeat (first
      | (refine wpAny_ite_true (decide_eq_true (by rw [c1])) ?_; wp_walk using wpAny_loadPart' hl)
      | (refine wpAny_ite_false (decide_eq_false (by decide)) ?_; wp_walk using wpAny_loadPart' hl))
    exact ⟨_, rfl, h⟩
def rRep1 (K : PySem.W.Frag) : R2 := fun x y H Q => ∃ l xs, x = .ref l ∧ y = .int 1 ∧ SqT K H l xs ∧ Q (.ref l) H
theorem op_rep1 {X : Cx} : OpR X (binaryOp .Mult) (rRep1 X.K) := by
  intro pins s σ H x y v u Q I rx ry h
  obtain ⟨l, xs, rfl, rfl, hT, q⟩ := h
  cases rx
  obtain ⟨t, rfl⟩ := ry
  obtain ⟨its, r, ⟨⟨cls, dd, data, sl⟩, ho, hc, n, hd⟩, hs⟩ := I.tuple hT
  simp only at hc hd
  subst hc hd
  refine wpAny_binaryOp_repeat_ref (T := "tuple") (U := "int") (by decide) ⟨_, ho, rfl⟩ (fun s' => typeIs_int s' 1 t) noFill_tuple_mul F.fills_int_mul F.slot_int_rmul repeat_tuple F.slot_int_index.lookup
    (call_meets F.slot_int_rmul (typeIs_int s 1 t) F.entry_int_rmul (F.args_int_rmul_2 _ _) (int_rmul_tuple 1 t l its.toArray n dd sl)
      ⟨ho, rfl, ⟨_, ho, rfl⟩, call_meets F.slot_tuple_mul ⟨_, ho, rfl⟩ F.entry_tuple_mul (F.args_tuple_mul_2 _ _) (tuple_mul1 l its.toArray n dd sl t) ⟨ho, ?_⟩⟩)
  exact ⟨.ref l, H, I, rfl, q⟩
/-! ### t * k, k not above 0: nothing -/
theorem tuple_mul0 (l : Addr) (items : Array Value) (n : Nat) (dd : Option Addr) (sl : Array (Option Value)) (x : Int) (u : Tok) (c0 : (decide (x < -(2 ^ 63)) || decide (x ≥ 2 ^ 63)) = false) (c1 : (items.isEmpty || x == 1) = false) (c2 : (decide (x ≤ 0) || items.isEmpty) = true) :
    Meets (Builtin.«tuple.__mul__» ⟨[.ref l, .int x u], []⟩) (fun _ R s => s.heap.get? l = some { cls := .type "tuple", dict := dd, data := .seq items n, slots := sl } ∧
      R (.ok (.ret (Value.ref s.heap.objs.size))) { s with heap := s.heap.push { cls := Value.type "tuple", data := Data.seq #[] }, toks := s.toks }) :=
  .of_wp fun prog w A R s h => by
    obtain ⟨hp, g, d, tk, os⟩ := s
    obtain ⟨hl, h⟩ := h
    have f1 := AutoSeq1.idx_int
    wp_walk using wpAny_loadPart' hl
    repeat (first
      | (refine wpAny_ite_false (decide_eq_false (by rw [c0]; exact Bool.false_ne_true)) ?_; wp_walk using wpAny_loadPart' hl)
      | (refine wpAny_ite_false (decide_eq_false (by rw [c1]; exact Bool.false_ne_true)) ?_; wp_walk using wpAny_loadPart' hl)
      | (refine wpAny_ite_true (decide_eq_true (by rw [c2])) ?_; wp_walk using wpAny_loadPart' hl))
    exact ⟨_, rfl, h⟩
def rRep0 (K : PySem.W.Frag) : R2 := fun x y H Q => ∃ l k xs, x = .ref l ∧ y = .int k ∧ SqT K H l xs ∧ xs ≠ [] ∧ k ≤ 0 ∧ -1000 ≤ k ∧ ∀ p, H p = none → Q (.ref p) (upd H p (.tup []))
theorem op_rep0 {X : Cx} : OpR X (binaryOp .Mult) (rRep0 X.K) := by
  intro pins s σ H x y v u Q I rx ry h
  obtain ⟨l, k, xs, rfl, rfl, hT, hne, h1, h2, q⟩ := h
  cases rx
  obtain ⟨t, rfl⟩ := ry
  obtain ⟨its, r, ⟨⟨cls, dd, data, sl⟩, ho, hc, n, hd⟩, hs⟩ := I.tuple hT
  simp only at hc hd
  subst hc hd
  have hle : its.length = xs.length := r.length.symm
  have hn : its ≠ [] := fun e => hne (by
    rw [e] at hle
    exact List.eq_nil_of_length_eq_zero hle.symm)
  have hi : its.toArray.isEmpty = false := by
    cases its with
    | nil => exact absurd rfl hn
    | cons a b => rfl
  have c0 : (decide (k < -(2 ^ 63)) || decide (k ≥ 2 ^ 63)) = false := by
    rw [decide_eq_false (by omega), decide_eq_false (by omega)] <;> rfl
  have c1 : (its.toArray.isEmpty || k == 1) = false := by
    rw [hi, Bool.false_or]
    exact beq_eq_false_iff_ne.mpr (by omega)
  have c2 : (decide (k ≤ 0) || its.toArray.isEmpty) = true := by
    rw [decide_eq_true h1]
    rfl
  refine wpAny_binaryOp_repeat_ref (T := "tuple") (U := "int") (by decide) ⟨_, ho, rfl⟩ (fun s' => typeIs_int s' k t) noFill_tuple_mul F.fills_int_mul F.slot_int_rmul repeat_tuple F.slot_int_index.lookup
    (call_meets F.slot_int_rmul (typeIs_int s k t) F.entry_int_rmul (F.args_int_rmul_2 _ _) (int_rmul_tuple k t l its.toArray n dd sl)
      ⟨ho, rfl, ⟨_, ho, rfl⟩, call_meets F.slot_tuple_mul ⟨_, ho, rfl⟩ F.entry_tuple_mul (F.args_tuple_mul_2 _ _) (tuple_mul0 l its.toArray n dd sl k t c0 c1 c2) ⟨ho, ?_⟩⟩)
  refine ⟨.ref s.heap.objs.size, _, I.laid (t' := s.toks) (o := .tup []) (fun b ob q => Heap.get?_push_of_some _ q) (Nat.le_refl _) ?_, rfl, q _ (I.hok.fresh (Nat.le_refl _))⟩
  exact ⟨Nat.zero_le _, [], Paired.nil, IsTup.new _ _⟩
end Rk

set_option maxHeartbeats 4000000
namespace Rk
open PySem PySem.Spec PyProof.Rows L2

/-! ### what comes of an operation: a new list is nobody's yet -/
def RN (C : Cfg) (g : Gh) (H : Hp) (H1 : Hp) (p : PV) (v : V) : Prop := match p with
  | .lst xs => ∃ a vs, v = .ref a ∧ H a = some (.lst vs) ∧ RPs C g xs vs ∧ g.G a = none ∧ Nt H1 a ∧ Free g.T a
  | .dct xs => ∃ a vs, v = .ref a ∧ H a = some (.dK vs) ∧ RPk C g xs vs ∧ g.G a = none ∧ Nt H1 a ∧ Free g.T a
  | p => RP C g p v
/-- the wish of an operation, from (g, H) on -/
def Out (C : Cfg) (g : Gh) (H : Hp) (Q : VK) : PV → Prop := fun p => ∀ g' H' v, Step C g H g' H' → RN C g' H' H p v → Q v H'

section
variable {C : Cfg} {g g' : Gh} {H H' : Hp} {Q : VK}
theorem Out.go (s : Step C g H g' H') {p : PV} (h : Out C g H Q p) : Out C g' H' Q p := fun g2 H2 v t r => by
  refine h g2 H2 v (s.trans t) ?_
  cases p with
  | lst xs =>
    obtain ⟨a, vs, e, h1, h2, h3, h4, h5⟩ := r
    exact ⟨a, vs, e, h1, h2, h3, s.dom _ h4, h5⟩
  | dct xs =>
    obtain ⟨a, vs, e, h1, h2, h3, h4, h5⟩ := r
    exact ⟨a, vs, e, h1, h2, h3, s.dom _ h4, h5⟩
  | _ => exact r
theorem Out.now (w : W0 C g H) {p : PV} (h : Out C g H Q p) {v : V} (np : ∀ xs, p ≠ .lst xs) (nd : ∀ xs, p ≠ .dct xs) (r : RP C g p v) : Q v H := by
  refine h g H v (Step.refl w) ?_
  cases p with
  | lst xs => exact absurd rfl (np xs)
  | dct xs => exact absurd rfl (nd xs)
  | _ => exact r
theorem Out.lst (w : W0 C g H) {xs : List PV} {vs : List V} (h : Out C g H Q (.lst xs)) (r : RPs C g xs vs) : ∀ p, H p = none → Q (.ref p) (upd H p (.lst vs)) := fun p n =>
  h g _ (.ref p) (Step.lay w n) ⟨p, vs, rfl, upd_same, r, w.none_of n, .of n, w.free_new n⟩
theorem Out.dct (w : W0 C g H) {xs : List (Key × PV)} {vs : List (Key × V)} (h : Out C g H Q (.dct xs)) (r : RPk C g xs vs) : ∀ p, H p = none → Q (.ref p) (upd H p (.dK vs)) := fun p n =>
  h g _ (.ref p) (Step.lay w n) ⟨p, vs, rfl, upd_same, r, w.none_of n, .of n, w.free_new n⟩
theorem Out.tup (w : W0 C g H) {xs : List PV} {vs : List V} (h : Out C g H Q (.tup xs)) (r : RPs C g xs vs) : ∀ p, H p = none → Q (.ref p) (upd H p (.tup vs)) := fun p n => by
  have s := Step.layF (o := .tup vs) w n (fun ps z => by cases z)
  exact h _ _ (.ref p) s ⟨p, vs, rfl, .inl (.inl upd_same), RPs.up s.le _ _ r⟩
/-- a new list is frozen -/
theorem Step.frz (s : Step C g H g' H') {a : Addr} {vs : List V} (h : H' a = some (.lst vs)) (n : Nt H a) (f : Free g'.T a) : Step C g H (g'.put a (.lst vs)) H' := by
  have nG : g'.G a = none ∨ g'.G a = some (.lst vs) := by
    cases e : g'.G a with
    | none => exact .inl rfl
    | some o => exact .inr (by rw [← h]; exact (s.w.sub _ _ e).symm)
  have keep : ∀ b o, g'.G b = some o → upd g'.G a (.lst vs) b = some o := fun b o e => by
    by_cases z : b = a
    · subst z
      rcases nG with q | q
      · rw [q] at e; cases e
      · rw [upd_same, ← q]; exact e
    · rw [upd_ne z]; exact e
  refine ⟨⟨fun b o e => keep b o (s.le.G b o e), s.le.T⟩, ⟨fun b o e => ?_, fun b ps e => ?_, s.w.tab, fun q hq => ?_, s.w.dj⟩, s.dom, s.frame, fun b o e n' => ?_, s.newT, s.E, s.F⟩
  · have e : upd g'.G a (.lst vs) b = some o := e
    by_cases z : b = a
    · subst z; rw [upd_same] at e; rw [h]; exact e
    · rw [upd_ne z] at e; exact s.w.sub b o e
  · have e : upd g'.G a (.lst vs) b = some (.tbl ps) := e
    by_cases z : b = a
    · subst z; rw [upd_same] at e; cases e
    · rw [upd_ne z] at e; exact s.w.ntb b ps e
  · obtain ⟨h1, h2, h3⟩ := s.w.tok q hq
    obtain ⟨f1, f2⟩ := f q hq
    refine ⟨h1, ?_, ?_⟩
    · show upd g'.G a (.lst vs) q.1 = none
      rw [upd_ne (Ne.symm f1)]; exact h2
    · show upd g'.G a (.lst vs) q.2 = none
      rw [upd_ne (Ne.symm f2)]; exact h3
  · have e : upd g'.G a (.lst vs) b = some o := e
    by_cases z : b = a
    · rw [z]; exact n
    · rw [upd_ne z] at e; exact s.new b o e n'
/-- something new is frozen -/
theorem Step.frzO (s : Step C g H g' H') {a : Addr} {ob : HO} (h : H' a = some ob) (nt : ∀ ps, ob ≠ .tbl ps) (n : Nt H a) (f : Free g'.T a) : Step C g H (g'.put a ob) H' := by
  have nG : g'.G a = none ∨ g'.G a = some ob := by
    cases e : g'.G a with
    | none => exact .inl rfl
    | some o => exact .inr (by rw [← h]; exact (s.w.sub _ _ e).symm)
  have keep : ∀ b o, g'.G b = some o → upd g'.G a ob b = some o := fun b o e => by
    by_cases z : b = a
    · subst z
      rcases nG with q | q
      · rw [q] at e; cases e
      · rw [upd_same, ← q]; exact e
    · rw [upd_ne z]; exact e
  refine ⟨⟨fun b o e => keep b o (s.le.G b o e), s.le.T⟩, ⟨fun b o e => ?_, fun b ps e => ?_, s.w.tab, fun q hq => ?_, s.w.dj⟩, s.dom, s.frame, fun b o e n' => ?_, s.newT, s.E, s.F⟩
  · have e : upd g'.G a ob b = some o := e
    by_cases z : b = a
    · subst z; rw [upd_same] at e; rw [h]; exact e
    · rw [upd_ne z] at e; exact s.w.sub b o e
  · have e : upd g'.G a ob b = some (.tbl ps) := e
    by_cases z : b = a
    · subst z; rw [upd_same] at e; exact nt ps (Option.some.inj e)
    · rw [upd_ne z] at e; exact s.w.ntb b ps e
  · obtain ⟨h1, h2, h3⟩ := s.w.tok q hq
    obtain ⟨f1, f2⟩ := f q hq
    refine ⟨h1, ?_, ?_⟩
    · show upd g'.G a ob q.1 = none
      rw [upd_ne (Ne.symm f1)]; exact h2
    · show upd g'.G a ob q.2 = none
      rw [upd_ne (Ne.symm f2)]; exact h3
  · have e : upd g'.G a ob b = some o := e
    by_cases z : b = a
    · rw [z]; exact n
    · rw [upd_ne z] at e; exact s.new b o e n'
theorem RN.val (s : Step C g H g' H') {p : PV} {v : V} (nd : ∀ xs, p ≠ .dct xs) (r : RN C g' H' H p v) : ∃ g2, Step C g H g2 H' ∧ RP C g2 p v := by
  cases p with
  | lst xs =>
    obtain ⟨a, vs, e, h1, h2, h3, h4, h5⟩ := r
    have s2 := s.frz h1 h4 h5
    have l : Le g' (g'.put a (.lst vs)) := ⟨fun b o q => (by
      show upd g'.G a (.lst vs) b = some o
      rw [upd_ne (fun z => (by rw [z, h3] at q; cases q))]
      exact q), fun _ q => q⟩
    exact ⟨_, s2, a, vs, e, upd_same, RPs.up l _ _ h2⟩
  | dct xs => exact absurd rfl (nd xs)
  | _ => exact ⟨g', s, r⟩
/-- a new dict is locked -/
theorem RN.lock (s : Step C g H g' H') {xs : List (Key × PV)} {v : V} (r : RN C g' H' H (.dct xs) v) : ∃ a vs, v = .ref a ∧ H' a = some (.dK vs) ∧ ∀ od, ∃ g2, Step C g H g2 (upd H' a (.frz od (.dK vs))) ∧ RP C g2 (.dct xs) v := by
  obtain ⟨a, vs, e, h1, h2, h3, h4, h5⟩ := r
  refine ⟨a, vs, e, h1, fun od => ?_⟩
  have s1 := s.write (o' := .frz od (.dK vs)) h1 (fun ps z => (by cases z)) (fun φ z => (by cases z)) h4 h3 h5
  have s2 := s1.frzO (a := a) upd_same (fun ps z => (by cases z)) h4 h5
  have l : Le g' (g'.put a (.frz od (.dK vs))) := ⟨fun b o q => (by
    show upd g'.G a (.frz od (.dK vs)) b = some o
    rw [upd_ne (fun z => (by rw [z, h3] at q; cases q))]
    exact q), fun _ q => q⟩
  exact ⟨_, s2, a, vs, od, e, upd_same, RPk.up l _ _ h2⟩

theorem pairsOf_inv {x : PV} {ps : List PV} {qs : List (Int × Int)} (e : pairsOf (x :: ps) = some qs) : ∃ i j ms, x = .tup [.int i, .int j] ∧ pairsOf ps = some ms ∧ qs = (i, j) :: ms := by
  unfold pairsOf at e
  split at e
  · rename_i h
    cases h
  · rename_i i j r h
    obtain ⟨h1, h2⟩ := List.cons.inj h
    subst h1
    subst h2
    cases q : pairsOf ps with
    | none => rw [q] at e; cases e
    | some ms =>
      rw [q] at e
      simp only [Option.map_some, Option.some.injEq] at e
      exact ⟨i, j, ms, rfl, rfl, e.symm⟩
  · cases e
theorem RPs.pairs : ∀ {ps : List PV} {qs : List (Int × Int)} {vs : List V}, pairsOf ps = some qs → RPs C g ps vs → vs.length = qs.length ∧ ∀ (i : Nat) (x : V) (p : Int × Int), vs[i]? = some x → qs[i]? = some p → RP C g (prV p) x
  | [], qs, vs, e, r => by
    simp only [pairsOf, Option.some.injEq] at e
    subst e
    rw [show vs = [] from r]
    exact ⟨rfl, fun i x p h => by simp at h⟩
  | y :: ps, qs, vs, e, r => by
    obtain ⟨i, j, ms, rfl, q, rfl⟩ := pairsOf_inv e
    obtain ⟨v, w, rfl, h1, h2⟩ := r
    obtain ⟨k1, k2⟩ := RPs.pairs q h2
    refine ⟨by rw [List.length_cons, List.length_cons, k1], fun k x p e1 e2 => ?_⟩
    cases k with
    | zero =>
      simp only [List.getElem?_cons_zero, Option.some.injEq] at e1 e2
      subst e1
      subst e2
      exact h1
    | succ k =>
      rw [List.getElem?_cons_succ] at e1 e2
      exact k2 k x p e1 e2
theorem RPs.ofPairs : ∀ {qs : List (Int × Int)} {ys : List V}, ys.length = qs.length → (∀ y p, (y, p) ∈ ys.zip qs → RP C g (prV p) y) → RPs C g (qs.map prV) ys
  | [], [], _, _ => rfl
  | q :: qs, y :: ys, hl, h => ⟨y, ys, rfl, h y q (by simp), RPs.ofPairs (by simpa using hl) fun z p hz => h z p (by simp [hz])⟩
theorem RPs.ints : ∀ {ps : List PV} {ns : List Int} {vs : List V}, intsOf ps = some ns → RPs C g ps vs → vs = ns.map V.int
  | [], ns, vs, e, r => by
    simp only [intsOf, Option.some.injEq] at e
    subst e
    exact r
  | .int i :: ps, ns, vs, e, r => by
    simp only [intsOf] at e
    obtain ⟨v, w, rfl, h1, h2⟩ := r
    cases q : intsOf ps with
    | none => rw [q] at e; cases e
    | some ms =>
      rw [q] at e
      simp only [Option.map_some, Option.some.injEq] at e
      subst e
      have h1 : v = .int i := h1
      rw [h1, RPs.ints q h2]
      rfl
  | .non :: _, _, _, e, _ => by cases e
  | .bl _ :: _, _, _, e, _ => by cases e
  | .str _ :: _, _, _, e, _ => by cases e
  | .tup _ :: _, _, _, e, _ => by cases e
  | .lst _ :: _, _, _, e, _ => by cases e
  | .dct _ :: _, _, _, e, _ => by cases e
  | .tok _ _ :: _, _, _, e, _ => by cases e
  | .fn _ :: _, _, _, e, _ => by cases e
theorem RPs.bools : ∀ {ps : List PV} {ns : List Bool} {vs : List V}, boolsOf ps = some ns → RPs C g ps vs → vs = ns.map V.bl
  | [], ns, vs, e, r => by
    simp only [boolsOf, Option.some.injEq] at e
    subst e
    exact r
  | .bl i :: ps, ns, vs, e, r => by
    simp only [boolsOf] at e
    obtain ⟨v, w, rfl, h1, h2⟩ := r
    cases q : boolsOf ps with
    | none => rw [q] at e; cases e
    | some ms =>
      rw [q] at e
      simp only [Option.map_some, Option.some.injEq] at e
      subst e
      have h1 : v = .bl i := h1
      rw [h1, RPs.bools q h2]
      rfl
  | .non :: _, _, _, e, _ => by cases e
  | .int _ :: _, _, _, e, _ => by cases e
  | .str _ :: _, _, _, e, _ => by cases e
  | .tup _ :: _, _, _, e, _ => by cases e
  | .lst _ :: _, _, _, e, _ => by cases e
  | .dct _ :: _, _, _, e, _ => by cases e
  | .tok _ _ :: _, _, _, e, _ => by cases e
  | .fn _ :: _, _, _, e, _ => by cases e
theorem RPs.ofInts (ns : List Int) : RPs C g (ns.map PV.int) (ns.map V.int) := by
  induction ns with
  | nil => rfl
  | cons n r ih => exact ⟨_, _, rfl, rfl, ih⟩
theorem RPs.rep {xs : List PV} {vs : List V} (r : RPs C g xs vs) : ∀ n : Nat, RPs C g (List.replicate n xs).flatten (List.replicate n vs).flatten
  | 0 => rfl
  | n + 1 => by
    rw [List.replicate_succ, List.replicate_succ, List.flatten_cons, List.flatten_cons]
    exact RPs.app r (RPs.rep r n)

mutual
theorem RP.dp (w : W0 C g H) : ∀ (p : PV) (v : V), p.plain = true → RP C g p v → Dp C.K H v p.data
  | .non, v, _, r => by
    have r : v = .non := r
    rw [r]; simp only [PV.data]; exact .non
  | .bl b, v, _, r => by
    have r : v = .bl b := r
    rw [r]; simp only [PV.data]; exact .bl b
  | .int i, v, _, r => by
    have r : v = .int i := r
    rw [r]; simp only [PV.data]; exact .int i
  | .str s, v, _, r => by
    have r : v = .str s := r
    rw [r]; simp only [PV.data]; exact .str s
  | .tup xs, v, hp, r => by
    obtain ⟨a, vs, rfl, h1, h2⟩ := r
    simp only [PV.data]
    simp only [PV.plain] at hp
    exact .tup (sqt_up w.sub h1) (RPs.dp w xs vs hp h2)
  | .lst xs, v, hp, r => by
    obtain ⟨a, vs, rfl, h1, h2⟩ := r
    simp only [PV.data]
    simp only [PV.plain] at hp
    exact .lst (SqL.of (w.sub _ _ h1)) (RPs.dp w xs vs hp h2)
  | .dct _, _, hp, _ => by simp only [PV.plain] at hp; cases hp
  | .tok _ _, _, hp, _ => by simp only [PV.plain] at hp; cases hp
  | .fn _, _, hp, _ => by simp only [PV.plain] at hp; cases hp
theorem RPs.dp (w : W0 C g H) : ∀ (ps : List PV) (vs : List V), PV.plains ps = true → RPs C g ps vs → DpAll C.K H vs (PV.datas ps)
  | [], vs, _, r => by
    have r : vs = [] := r
    rw [r]; simp only [PV.datas]; exact .nil
  | p :: ps, _, hp, r => by
    obtain ⟨v, vs, rfl, h1, h2⟩ := r
    simp only [PV.plains, Bool.and_eq_true] at hp
    simp only [PV.datas]
    exact .cons (RP.dp w p v hp.1 h1) (RPs.dp w ps vs hp.2 h2)
end
theorem RPo.dp (w : W0 C g H) {p : PV} {v : V} (hp : p.plain = true) (r : RPo C g H p v) : Dp C.K H v p.data := by
  rcases r with r | ⟨a, vs, xs, rfl, rfl, h1, h2, h3⟩ | ⟨a, vs, xs, rfl, rfl, h1, h2, h3⟩
  · exact RP.dp w p v hp r
  · simp only [PV.data]
    simp only [PV.plain] at hp
    exact .lst (SqL.of h1) (RPs.dp w xs vs hp h2)
  · simp only [PV.plain] at hp
    cases hp

theorem RPo.tupR {xs : List PV} {v : V} (r : RPo C g H (.tup xs) v) : RP C g (.tup xs) v := by
  rcases r with r | ⟨_, _, _, e, _⟩ | ⟨_, _, _, e, _⟩
  · exact r
  · cases e
  · cases e

/-! ### operators -/
def bopP : Bop → Operator
  | .add => .Add
  | .sub => .Sub
  | .mul => .Mult
  | .fdv => .FloorDiv
  | .mod => .Mod
  | .pow => .Pow
variable {X : Cx}
theorem op_mulG : OpR X (binaryOp .Mult) (rI IntMulOk fun i j => .int (i * j)) := opI fun _ _ _ _ _ _ _ hc q => mul_int q hc
theorem op_fdivG : OpR X (binaryOp .FloorDiv) (rI (fun _ j => j ≠ 0 ∧ j.natAbs.log2 < 9000) fun i j => .int (i.fdiv j)) := opI fun _ _ _ _ _ _ _ hc q => floordiv_int hc.1 q (.inl (PyProof.noPylong_of_log2 hc.2))
theorem bin_ok (hK : X.K = C.K) (op : Bop) : ∃ r : R2, OpR X (binaryOp (bopP op)) r ∧ ∀ (g : Gh) (H : Hp) (p q : PV) (x y : V) (Q : VK), W0 C g H → RPo C g H p x → RPo C g H q y → binW op p q (Out C g H Q) → r x y H Q := by
  cases op with
  | add =>
    refine ⟨_, (op_add.or (op_add_str.or (op_cat.or op_catA))), fun g H p q x y Q w r1 r2 h => ?_⟩
    cases p <;> cases q <;> simp only [binW] at h
    · exact .inl ⟨_, _, r1.int, r2.int, h.now w (fun _ z => (by cases z)) (fun _ z => (by cases z)) rfl⟩
    · exact .inr (.inl ⟨_, _, r1.str, r2.str, h.1, h.2.now w (fun _ z => (by cases z)) (fun _ z => (by cases z)) rfl⟩)
    · obtain ⟨a, vs, e1, t1, s1⟩ := r1.tup w
      obtain ⟨b, ws, e2, t2, s2⟩ := r2.tup w
      obtain ⟨hl, h⟩ := h
      rw [← hK] at t1 t2
      refine .inr (.inr (.inr ⟨a, b, vs, ws, e1, e2, t1, t2, by rw [← s1.len, ← s2.len]; exact hl, fun z => ?_, fun _ z => ?_, fun _ _ => h.tup w (RPs.app s1 s2)⟩))
      · rename_i xs ys
        have e : xs = [] := List.eq_nil_of_length_eq_zero (by rw [s1.len, z]; rfl)
        subst e
        rw [← e2]
        exact h.now w (fun _ z => (by cases z)) (fun _ z => (by cases z)) r2.tupR
      · rename_i xs ys _
        have e : ys = [] := List.eq_nil_of_length_eq_zero (by rw [s2.len, z]; rfl)
        subst e
        rw [List.append_nil] at h
        rw [← e1]
        exact h.now w (fun _ z => (by cases z)) (fun _ z => (by cases z)) r1.tupR
    · obtain ⟨a, vs, e1, t1, s1⟩ := r1.lst w
      obtain ⟨b, ws, e2, t2, s2⟩ := r2.lst w
      exact .inr (.inr (.inl ⟨a, b, vs, ws, e1, e2, t1, t2, by rw [← s1.len, ← s2.len]; exact h.1, h.2.lst w (RPs.app s1 s2)⟩))
  | sub =>
    refine ⟨_, op_sub, fun g H p q x y Q w r1 r2 h => ?_⟩
    cases p <;> cases q <;> simp only [binW] at h
    exact ⟨_, _, r1.int, r2.int, h.now w (fun _ z => (by cases z)) (fun _ z => (by cases z)) rfl⟩
  | mul =>
    refine ⟨_, (op_mulG.or (op_rep.or (op_repT.or (op_rep1.or op_rep0)))), fun g H p q x y Q w r1 r2 h => ?_⟩
    cases p <;> cases q <;> simp only [binW] at h
    · exact .inl ⟨_, _, r1.int, r2.int, h.1, h.2.now w (fun _ z => (by cases z)) (fun _ z => (by cases z)) rfl⟩
    · obtain ⟨a, vs, e1, t1, s1⟩ := r1.tup w
      rw [← hK] at t1
      obtain ⟨hn, ⟨h1, h2⟩, h3, h⟩ := h
      rename_i j
      by_cases hj : j = 1
      · subst hj
        refine .inr (.inr (.inr (.inl ⟨a, vs, e1, r2.int, t1, ?_⟩)))
        have h0 : Out C g H Q (.tup (List.replicate (1 : Int).toNat _).flatten) := h
        rw [show (1 : Int).toNat = 1 from rfl, List.replicate_one, List.flatten_singleton] at h0
        rw [← e1]
        exact h0.now w (fun _ z => (by cases z)) (fun _ z => (by cases z)) r1.tupR
      · by_cases hz : j ≤ 0
        · refine .inr (.inr (.inr (.inr ⟨a, j, vs, e1, r2.int, t1, fun z => hn (List.eq_nil_of_length_eq_zero (by rw [s1.len, z]; rfl)), hz, h1, ?_⟩)))
          have e0 : (List.replicate j.toNat vs).flatten = [] := by rw [show j.toNat = 0 by omega]; rfl
          have h0 := h.tup w (RPs.rep s1 j.toNat)
          rw [e0] at h0
          exact h0
        · refine .inr (.inr (.inl ⟨a, _, vs, e1, r2.int, t1, fun z => hn (List.eq_nil_of_length_eq_zero (by rw [s1.len, z]; rfl)), by omega, h2, by rw [← s1.len]; exact h3, h.tup w (RPs.rep s1 _)⟩))
    · obtain ⟨a, vs, e1, t1, s1⟩ := r1.lst w
      obtain ⟨h1, h2, h3, h⟩ := h
      exact .inr (.inl ⟨a, _, vs, e1, r2.int, t1, by omega, by omega, by rw [← s1.len]; exact h3, h.lst w (RPs.rep s1 _)⟩)
  | fdv =>
    refine ⟨_, op_fdivG, fun g H p q x y Q w r1 r2 h => ?_⟩
    cases p <;> cases q <;> simp only [binW] at h
    exact ⟨_, _, r1.int, r2.int, ⟨h.1, h.2.1⟩, h.2.2.now w (fun _ z => (by cases z)) (fun _ z => (by cases z)) rfl⟩
  | mod =>
    refine ⟨_, op_modN, fun g H p q x y Q w r1 r2 h => ?_⟩
    cases p <;> cases q <;> simp only [binW] at h
    exact ⟨_, _, r1.int, r2.int, h.1, h.2.now w (fun _ z => (by cases z)) (fun _ z => (by cases z)) rfl⟩
  | pow =>
    refine ⟨_, op_pow, fun g H p q x y Q w r1 r2 h => ?_⟩
    cases p <;> cases q <;> simp only [binW] at h
    exact ⟨_, _, r1.int, r2.int, h.1, h.2.now w (fun _ z => (by cases z)) (fun _ z => (by cases z)) rfl⟩
end
end Rk

set_option maxHeartbeats 4000000
namespace Rk
open PySem PySem.Spec PyProof.Rows L2
section
variable {C : Cfg} {g g' : Gh} {H H' : Hp} {X : Cx}
def flatOf : PV → V
  | .non => .non
  | .bl b => .bl b
  | .int i => .int i
  | .str s => .str s
  | _ => .non
theorem RPo.flat {p : PV} {v : V} (f : p.flat = true) (r : RPo C g H p v) : v = flatOf p := by
  cases p <;> simp only [PV.flat, Bool.false_eq_true] at f
  · exact r.non
  · exact r.bl
  · exact r.int
  · exact r.str
theorem RP.flat {p : PV} {v : V} (f : p.flat = true) (r : RP C g p v) : v = flatOf p := RPo.flat (H := fun _ => none) f (.inl r)
theorem flatV_of {p : PV} (f : p.flat = true) : flatV (flatOf p) = true := by
  cases p <;> simp only [PV.flat, Bool.false_eq_true] at f <;> rfl
theorem eqV_of {p q : PV} (f : p.flat = true) (f' : q.flat = true) : eqV (flatOf p) (flatOf q) = p.eqv q := by
  cases p <;> simp only [PV.flat, Bool.false_eq_true] at f <;> cases q <;> simp only [PV.flat, Bool.false_eq_true] at f' <;> simp only [flatOf, eqV, PV.eqv, PV.data, PyData.eqv]
theorem RPs.flat : ∀ {ps : List PV} {vs : List V}, ps.all PV.flat = true → RPs C g ps vs → vs = ps.map flatOf
  | [], _, _, r => r
  | p :: ps, _, f, r => by
    obtain ⟨v, vs, rfl, h1, h2⟩ := r
    simp only [List.all_cons, Bool.and_eq_true] at f
    rw [RP.flat f.1 h1, RPs.flat f.2 h2]
    rfl
theorem all_flatV : ∀ {ps : List PV}, ps.all PV.flat = true → (ps.map flatOf).all flatV = true
  | [], _ => rfl
  | p :: ps, f => by
    simp only [List.all_cons, Bool.and_eq_true] at f
    simp only [List.map_cons, List.all_cons, Bool.and_eq_true]
    exact ⟨flatV_of f.1, all_flatV f.2⟩
theorem inV_of {q : PV} (f' : q.flat = true) : ∀ {ps : List PV}, ps.all PV.flat = true → inV (flatOf q) (ps.map flatOf) = ps.any fun x => x.eqv q
  | [], _ => rfl
  | p :: ps, f => by
    simp only [List.all_cons, Bool.and_eq_true] at f
    have ih := inV_of f' f.2
    unfold inV at ih ⊢
    simp only [List.map_cons, List.any_cons]
    rw [ih, eqV_of f.1 f']

def copP : Cop → CmpOp
  | .eq => .Eq
  | .ne => .NotEq
  | .lt => .Lt
  | .le => .LtE
  | .gt => .Gt
  | .ge => .GtE
  | .is => .Is
  | .nis => .IsNot
  | .isin => .In
  | .nin => .NotIn

theorem keyW_at {p : PV} {P : Key → Prop} (h : keyW p P) : ∃ k, p = keyP k ∧ P k := by
  cases p <;> simp only [keyW] at h
  · exact ⟨.inl _, rfl, h⟩
  · exact ⟨.inr _, rfl, h⟩
theorem dctW_at {p : PV} {P : List (Key × PV) → Prop} (h : dctW p P) : ∃ k, p = .dct k ∧ P k := by
  cases p <;> simp only [dctW] at h
  exact ⟨_, rfl, h⟩
theorem RPo.key {k : Key} {v : V} (h : RPo C g H (keyP k) v) : v = kV k := by
  cases k with
  | inl i => exact h.int
  | inr s => exact h.str
theorem RPk.isS {k : Key} {xs : List (Key × PV)} {vs : List (Key × V)} (h : RPk C g xs vs) : (valV vs k).isSome = (dg xs k).isSome := by
  have a := h.at_ (k := k)
  cases e : dg xs k with
  | none =>
    rw [a.2 e]
    rfl
  | some q =>
    obtain ⟨u, e2, _⟩ := a.1 q e
    rw [e2]
    rfl
def rInDk (K : PySem.W.Frag) : R2 := fun x y H Q => ∃ a o, y = .ref a ∧ DGet H a x o ∧ Q (.bl o.isSome) H
def rNinDk (K : PySem.W.Frag) : R2 := fun x y H Q => ∃ a o, y = .ref a ∧ DGet H a x o ∧ Q (.bl (!o.isSome)) H
theorem op_in_dk (hu : X.A.units + 64 < cLine) : OpR X (compareOp .In) (rInDk X.K) := by
  intro pins s σ H x y v u Q I rx ry h
  obtain ⟨a, o, rfl, g, q⟩ := h
  obtain rfl : u = Value.ref a := ry
  exact d_in (by omega) I g rx fun s3 I3 => ⟨.bl o.isSome, H, I3, rfl, q⟩
theorem op_nin_dk (hu : X.A.units + 64 < cLine) : OpR X (compareOp .NotIn) (rNinDk X.K) := by
  intro pins s σ H x y v u Q I rx ry h
  obtain ⟨a, o, rfl, g, q⟩ := h
  obtain rfl : u = Value.ref a := ry
  exact d_notIn (by omega) I g rx fun s3 I3 => ⟨.bl (!o.isSome), H, I3, rfl, q⟩
theorem cmp_ok (hK : X.K = C.K) (hu : X.A.units + 64 < cLine) (op : Cop) : ∃ r : R2, OpR X (compareOp (copP op)) r ∧ ∀ (g : Gh) (H : Hp) (p q : PV) (x y : V) (Q : VK), W0 C g H → RPo C g H p x → RPo C g H q y → cmpW op p q (fun b => Q (.bl b) H) → r x y H Q := by
  cases op with
  | eq =>
    refine ⟨_, op_eqD hu, fun g H p q x y Q w r1 r2 h => ?_⟩
    have h : p.shp = true ∧ q.shp = true ∧ Q (.bl (p.eqv q)) H := by cases p <;> cases q <;> simp only [cmpW] at h <;> exact h
    obtain ⟨h1, h2, h⟩ := h
    simp only [PV.shp, Bool.and_eq_true] at h1 h2
    exact ⟨_, _, hK ▸ r1.dp w h1.1, hK ▸ r2.dp w h2.1, h1.2, h2.2, h⟩
  | ne =>
    refine ⟨_, op_neD hu, fun g H p q x y Q w r1 r2 h => ?_⟩
    have h : p.shp = true ∧ q.shp = true ∧ Q (.bl (!p.eqv q)) H := by cases p <;> cases q <;> simp only [cmpW] at h <;> exact h
    obtain ⟨h1, h2, h⟩ := h
    simp only [PV.shp, Bool.and_eq_true] at h1 h2
    exact ⟨_, _, hK ▸ r1.dp w h1.1, hK ▸ r2.dp w h2.1, h1.2, h2.2, h⟩
  | lt =>
    refine ⟨_, op_lt, fun g H p q x y Q w r1 r2 h => ?_⟩
    cases p <;> cases q <;> simp only [cmpW] at h
    exact ⟨_, _, r1.int, r2.int, h⟩
  | le =>
    refine ⟨_, op_le, fun g H p q x y Q w r1 r2 h => ?_⟩
    cases p <;> cases q <;> simp only [cmpW] at h
    exact ⟨_, _, r1.int, r2.int, h⟩
  | gt =>
    refine ⟨_, op_gt, fun g H p q x y Q w r1 r2 h => ?_⟩
    cases p <;> cases q <;> simp only [cmpW] at h
    exact ⟨_, _, r1.int, r2.int, h⟩
  | ge =>
    refine ⟨_, op_ge, fun g H p q x y Q w r1 r2 h => ?_⟩
    cases p <;> cases q <;> simp only [cmpW] at h
    exact ⟨_, _, r1.int, r2.int, h⟩
  | is =>
    refine ⟨_, (op_isN.or op_isBl), fun g H p q x y Q w r1 r2 h => ?_⟩
    have hn : ∀ {b : Bool}, q = .non → (b = decide (x = .non)) → Q (.bl b) H → (y = .non ∧ Q (.bl (decide (x = .non))) H) := fun {b} e e2 z => by
      subst e
      rw [← e2]
      exact ⟨r2.non, z⟩
    cases q <;> simp only [cmpW] at h
    · refine .inl (hn rfl ?_ h)
      rcases r1 with r | ⟨a, vs, xs, rfl, rfl, _⟩ | ⟨a, vs, xs, rfl, rfl, _⟩
      · cases p <;> first
          | (obtain ⟨a, vs, o, rfl, _⟩ := r; simp)
          | (obtain ⟨a, vs, rfl, _⟩ := r; simp)
          | (obtain ⟨rfl, _⟩ := r; simp)
          | (obtain ⟨a, rfl, _⟩ := r; simp)
          | (obtain ⟨a, _, rfl⟩ := r; simp)
          | (have r : x = _ := r; subst r; simp)
      · simp
      · simp
    · cases p <;> simp only [cmpW] at h
      exact .inr ⟨_, _, r1.bl, r2.bl, h⟩
  | nis =>
    refine ⟨_, (op_notN.or op_notBl), fun g H p q x y Q w r1 r2 h => ?_⟩
    have hn : ∀ {b : Bool}, q = .non → (b = !decide (x = .non)) → Q (.bl b) H → (y = .non ∧ Q (.bl (!decide (x = .non))) H) := fun {b} e e2 z => by
      subst e
      rw [← e2]
      exact ⟨r2.non, z⟩
    cases q <;> simp only [cmpW] at h
    · refine .inl (hn rfl ?_ h)
      rcases r1 with r | ⟨a, vs, xs, rfl, rfl, _⟩ | ⟨a, vs, xs, rfl, rfl, _⟩
      · cases p <;> first
          | (obtain ⟨a, vs, o, rfl, _⟩ := r; simp)
          | (obtain ⟨a, vs, rfl, _⟩ := r; simp)
          | (obtain ⟨rfl, _⟩ := r; simp)
          | (obtain ⟨a, rfl, _⟩ := r; simp)
          | (obtain ⟨a, _, rfl⟩ := r; simp)
          | (have r : x = _ := r; subst r; simp)
      · simp
      · simp
    · cases p <;> simp only [cmpW] at h
      exact .inr ⟨_, _, r1.bl, r2.bl, h⟩
  | isin =>
    refine ⟨_, op_in_seq.or (op_in_dk hu), fun g H p q x y Q w r1 r2 h => ?_⟩
    cases q <;> simp only [cmpW] at h
    · obtain ⟨h1, h2, h⟩ := h
      obtain ⟨a, vs, e, t, s⟩ := r2.tup w
      rw [← hK] at t
      have ev := RPs.flat h2 s
      subst ev
      rw [r1.flat h1]
      refine .inl ⟨a, _, e, .inr t, flatV_of h1, all_flatV h2, ?_⟩
      rw [inV_of h1 h2]
      exact h
    · obtain ⟨h1, h2, h⟩ := h
      obtain ⟨a, vs, e, t, s⟩ := r2.lst w
      have ev := RPs.flat h2 s
      subst ev
      rw [r1.flat h1]
      refine .inl ⟨a, _, e, .inl (SqL.of t), flatV_of h1, all_flatV h2, ?_⟩
      rw [inV_of h1 h2]
      exact h
    · obtain ⟨k, e0, hk⟩ := keyW_at h
      subst e0
      obtain ⟨a, vs, e, t, s⟩ := r2.dct w
      rw [r1.key]
      refine .inr ⟨a, _, e, .inl ⟨vs, k, t, rfl, rfl⟩, ?_⟩
      rw [s.isS]
      exact hk
  | nin =>
    refine ⟨_, op_notIn_seq.or (op_nin_dk hu), fun g H p q x y Q w r1 r2 h => ?_⟩
    cases q <;> simp only [cmpW] at h
    · obtain ⟨h1, h2, h⟩ := h
      obtain ⟨a, vs, e, t, s⟩ := r2.tup w
      rw [← hK] at t
      have ev := RPs.flat h2 s
      subst ev
      rw [r1.flat h1]
      refine .inl ⟨a, _, e, .inr t, flatV_of h1, all_flatV h2, ?_⟩
      rw [inV_of h1 h2]
      exact h
    · obtain ⟨h1, h2, h⟩ := h
      obtain ⟨a, vs, e, t, s⟩ := r2.lst w
      have ev := RPs.flat h2 s
      subst ev
      rw [r1.flat h1]
      refine .inl ⟨a, _, e, .inl (SqL.of t), flatV_of h1, all_flatV h2, ?_⟩
      rw [inV_of h1 h2]
      exact h
    · obtain ⟨k, e0, hk⟩ := keyW_at h
      subst e0
      obtain ⟨a, vs, e, t, s⟩ := r2.dct w
      rw [r1.key]
      refine .inr ⟨a, _, e, .inl ⟨vs, k, t, rfl, rfl⟩, ?_⟩
      rw [s.isS]
      exact hk

theorem RPs.emp : ∀ {ps : List PV} {vs : List V}, RPs C g ps vs → vs.isEmpty = ps.isEmpty
  | [], _, r => by rw [r]; rfl
  | p :: ps, _, r => by
    obtain ⟨v, vs, rfl, _, _⟩ := r
    rfl
/-! ### truth -/
theorem tru_of (w : W0 C g H) (hK : X.K = C.K) {p : PV} {v : V} {Q : Bool → Prop} (r : RPo C g H p v) (h : truthW p Q) : ∃ k, TruV X.K v H k ∧ Q k := by
  cases p <;> simp only [truthW] at h
  · rw [r.non]
    exact ⟨false, rfl, h⟩
  · rw [r.bl]
    exact ⟨_, rfl, h⟩
  · rw [r.int]
    exact ⟨_, rfl, h⟩
  · rw [r.str]
    exact ⟨_, ⟨h.1, rfl⟩, h.2⟩
  · obtain ⟨a, vs, e, t, s⟩ := r.tup w
    rw [← hK] at t
    rw [e]
    exact ⟨_, .inr (.inl ⟨vs, t, rfl⟩), by rw [s.emp]; exact h⟩
  · obtain ⟨a, vs, e, t, s⟩ := r.lst w
    rw [e]
    exact ⟨_, .inl ⟨vs, SqL.of t, rfl⟩, by rw [s.emp]; exact h⟩
end
end Rk

set_option maxHeartbeats 4000000
namespace Rk
open PySem PySem.Spec PyProof.Rows L2

/-! ### min and max of a tuple of ints -/
section
variable {prog : Program} {w : World} {A : Around} {E : Value → Shared → Prop} {s : Shared} {l : Addr} {xs : Array (Int × Tok)} {its : List Value} {ns : List Int} {Q : Value → Shared → Prop}
theorem iter_tupInts (hl : s.heap.IsTuple l (intItems xs))
    (h : ∀ s₂ : Shared, s₂ = { s with heap := s.heap.push { cls := .type "tuple_iterator", data := .fields #[.ref l, .int 0 0] } } →
      (s₂.heap.IsTupleIter s.heap.objs.size l 0 ∧ s₂.heap.IsTuple l (intItems xs)) → (∀ b ∈ [s.heap.objs.size, l], b < s₂.heap.objs.size) → l ≠ s.heap.objs.size → Q (.ref s.heap.objs.size) s₂) :
    wpAny (model prog w) A (pyIter (.ref l)) Q E s := by
  have hlt : l < s.heap.objs.size := by obtain ⟨_, e, _⟩ := hl; exact Heap.lt_size e
  refine wpAny_pyIter_tuple hl (h _ rfl ⟨⟨_, Heap.get?_push_size _ rfl, rfl, rfl⟩, hl.push _⟩ (fun b hb => ?_) (Nat.ne_of_lt hlt))
  show b < (s.heap.push _).objs.size
  rw [Heap.size_push]
  simp only [List.mem_cons, List.not_mem_nil, or_false] at hb
  rcases hb with rfl | rfl
  · exact Nat.lt_succ_self _
  · exact Nat.lt_succ_of_lt hlt
theorem kept_over {o' : Obj} {h' : Heap} (hk : ∀ b o, b ∉ [s.heap.objs.size] → (s.heap.push o').get? b = some o → h'.get? b = some o) :
    ∀ b o, s.heap.get? b = some o → h'.get? b = some o := fun b o e => by
  refine hk b o (fun hm => ?_) (Heap.get?_push_of_some _ e)
  simp only [List.mem_cons, List.not_mem_nil, or_false] at hm
  exact absurd (hm ▸ Heap.lt_size e) (Nat.lt_irrefl _)
theorem maxT_raw (hh : A.handled = none) (hl : s.heap.IsTuple l its.toArray) (hi : IntsAre its ns) (hne : 0 < ns.length)
    (h : ∀ h' tk M t', (∀ b o, s.heap.get? b = some o → h'.get? b = some o) → M ∈ ns → (∀ a, a ∈ ns → a ≤ M) → Q (.int M t') { s with heap := h', toks := tk }) : wpAny (model prog w) A (call (.builtin "max") [.ref l]) Q E s := by
  obtain ⟨xs, e⟩ := hi.allInts.items
  have hn : numsOf (intItems xs).toList = ns := by rw [← e]; exact hi.numsOf
  rw [nums_intItems] at hn
  subst hn
  rw [e] at hl
  have hsz : 0 < xs.size := by simpa using hne
  refine call_max_walk (iter_tupInts hl fun s₂ e st hfp hlI => ?_)
  subst e
  refine ⟨_, _, _, _, _, _, _, rfl, Walks.tuple (A := A.in1) hh _ l hlI (intItems xs), st, hfp, by simpa [intItems] using hsz, CmpOf.ints_gt (numAt xs) (fun _ _ => intItems_at), fun v h' tk hP hk => ?_⟩
  have hv : (intItems xs)[argBest (fun i j => decide (numAt xs i > numAt xs j)) (xs.size - 1)]? = some v := by simpa [intItems] using hP
  obtain ⟨t, rfl⟩ := intItems_at hv
  obtain ⟨h1, h2⟩ := argBest_gt (numAt xs) (xs.size - 1)
  refine h h' tk _ t (kept_over hk) ?_ fun a ha => ?_
  · rw [numAt_eq]; exact PySem.getD_mem (by rw [List.length_map, Array.length_toList]; omega)
  · obtain ⟨j, hj, rfl⟩ := mem_getD ha
    rw [List.length_map, Array.length_toList] at hj
    rw [← numAt_eq]; exact h2 j (by omega)
theorem minT_raw (hh : A.handled = none) (hl : s.heap.IsTuple l its.toArray) (hi : IntsAre its ns) (hne : 0 < ns.length)
    (h : ∀ h' tk M t', (∀ b o, s.heap.get? b = some o → h'.get? b = some o) → M ∈ ns → (∀ a, a ∈ ns → M ≤ a) → Q (.int M t') { s with heap := h', toks := tk }) : wpAny (model prog w) A (call (.builtin "min") [.ref l]) Q E s := by
  obtain ⟨xs, e⟩ := hi.allInts.items
  have hn : numsOf (intItems xs).toList = ns := by rw [← e]; exact hi.numsOf
  rw [nums_intItems] at hn
  subst hn
  rw [e] at hl
  have hsz : 0 < xs.size := by simpa using hne
  refine call_min_walk (iter_tupInts hl fun s₂ e st hfp hlI => ?_)
  subst e
  refine ⟨_, _, _, _, _, _, _, rfl, Walks.tuple (A := A.in1) hh _ l hlI (intItems xs), st, hfp, by simpa [intItems] using hsz, CmpOf.ints_lt (numAt xs) (fun _ _ => intItems_at), fun v h' tk hP hk => ?_⟩
  have hv : (intItems xs)[argBest (fun i j => decide (numAt xs i < numAt xs j)) (xs.size - 1)]? = some v := by simpa [intItems] using hP
  obtain ⟨t, rfl⟩ := intItems_at hv
  obtain ⟨h1, h2⟩ := argBest_lt (numAt xs) (xs.size - 1)
  refine h h' tk _ t (kept_over hk) ?_ fun a ha => ?_
  · rw [numAt_eq]; exact PySem.getD_mem (by rw [List.length_map, Array.length_toList]; omega)
  · obtain ⟨j, hj, rfl⟩ := mem_getD ha
    rw [List.length_map, Array.length_toList] at hj
    rw [← numAt_eq]; exact h2 j (by omega)
end
section
variable {X : Cx}
theorem cr_maxT (hc : X.calm = true) : CallR X (.builtin "max") (fun vs H Q => ∃ (a : Addr) (ns : List Int), vs = [V.ref a] ∧ SqT X.K H a (ns.map V.int) ∧ 0 < ns.length ∧ ∀ m, m ∈ ns → (∀ y, y ∈ ns → y ≤ m) → Q (.int m) H) := by
  intro pins s σ H vs us Q I r h
  obtain ⟨a, ns, rfl, hs, hne, q⟩ := h
  obtain ⟨its, rv, hl, _⟩ := I.tuple hs
  rw [Vals.ref1 r]
  exact maxT_raw (I.ok.hd hc) hl rv.ints hne fun h' tk m t' hk h1 h2 => ⟨.int _, H, I.kept hk, ⟨_, rfl⟩, q m h1 h2⟩
theorem cr_minT (hc : X.calm = true) : CallR X (.builtin "min") (fun vs H Q => ∃ (a : Addr) (ns : List Int), vs = [V.ref a] ∧ SqT X.K H a (ns.map V.int) ∧ 0 < ns.length ∧ ∀ m, m ∈ ns → (∀ y, y ∈ ns → m ≤ y) → Q (.int m) H) := by
  intro pins s σ H vs us Q I r h
  obtain ⟨a, ns, rfl, hs, hne, q⟩ := h
  obtain ⟨its, rv, hl, _⟩ := I.tuple hs
  rw [Vals.ref1 r]
  exact minT_raw (I.ok.hd hc) hl rv.ints hne fun h' tk m t' hk h1 h2 => ⟨.int _, H, I.kept hk, ⟨_, rfl⟩, q m h1 h2⟩
end
end Rk

set_option maxHeartbeats 4000000
namespace Rk
open PySem PySem.Spec PyProof.Rows L2

/-! ### sorted of a list or a tuple: ints, pairs of ints -/
section
variable {prog : Program} {w : World} {A : Around} {E : Value → Shared → Prop} {s : Shared}
open PySem.F in
theorem collect_exact {Q : List Value → Shared → Prop} (it : Addr) {T : String} {o : Obj} {items : Array Value} {n : Nat} (hT : T = "list" ∨ T = "tuple")
    (ho : s.heap.get? it = some o) (hc : o.cls = .type T) (hd : o.data = .seq items n) (hsz : items.size ≤ sizeLine)
    (hQ : Q items.toList { s with heap := (s.heap.push (seqObj "list" #[] 0)).update s.heap.objs.size (Obj.mapSeq (· ++ items)) }) :
    wpAny (model prog w) A (collect (.ref it)) Q E s := by
  unfold collect
  refine wpAny_bind (wpAny_runValue (codeAny_builtin F.entry_proto_collect ?_))
  rw [Around.under_plainId F.plain_proto_collect _]
  show wpAny _ A.in1 (newList [] >>= fun l => again (.builtin "list.__iadd__" ⟨[l, .ref it], []⟩)) _ _ s
  refine wpAny_bind (wpAny_newObj_type ?_)
  refine wpAny_pure ⟨plainId_quiet F.plain_list_iadd _, codeAny_builtin F.entry_list_iadd ?_⟩
  rw [Around.under_plainId F.plain_list_iadd _]
  show wpAny _ A.in1 (Builtin.List.listExtendWith (.ref s.heap.objs.size) (.ref it) (.ref s.heap.objs.size)) _ _ _
  have hS : (s.heap.push { cls := .type "list", data := .seq ([] : List Value).toArray }).get? s.heap.objs.size = some { cls := .type "list", data := .seq #[] 0 } := Heap.get?_push_size _ rfl
  have hS₂ := Heap.get?_update_self (Obj.mapSeq (· ++ items)) hS rfl
  have fin' : wpAny (model prog w) A (match Value.ref s.heap.objs.size with
      | Value.ref a => do
        match (← load a).data with
          | Data.seq xs _ => pure xs.toList
          | _ => unsupported "internal:collect"
      | _ => unsupported "internal:collect") Q E { s with heap := (s.heap.push { cls := .type "list", data := .seq ([] : List Value).toArray }).update s.heap.objs.size (Obj.mapSeq (· ++ items)) } := by
    show wpAny _ A (load s.heap.objs.size >>= _) _ _ _
    refine wpAny_bind (wpAny_load hS₂ ?_)
    refine wpAny_pure ?_
    have e : ((#[] : Array Value) ++ items).toList = items.toList := by simp
    show Q ((#[] : Array Value) ++ items).toList _
    rw [e]
    exact hQ
  refine wpAny_mono (wpAny_extend_seq (hsz := hsz) (A := A) (R := fun r s' => r = .ok (.ret (.ref s.heap.objs.size)) ∧ s' = { s with heap := (s.heap.push { cls := .type "list", data := .seq ([] : List Value).toArray }).update s.heap.objs.size (Obj.mapSeq (· ++ items)) })
    (s := { s with heap := s.heap.push { cls := .type "list", data := .seq ([] : List Value).toArray } }) _ it _ 0 hT hS (Heap.get?_push_of_some _ ho) hc hd ⟨rfl, rfl⟩) (fun fin s' h => ?_) (fun e s' h => ?_)
  · cases fin with
    | done f =>
      obtain ⟨e, rfl⟩ := h
      cases e
      exact fin'
    | again c' => exact ⟨h.1, codeAny_mono h.2 fun r s'' hr => by obtain ⟨rfl, rfl⟩ := hr; exact fin'⟩
  · exact absurd h.1 (by simp)
theorem sorted_seq {l : Addr} {T : String} {o : Obj} {n : Nat} {vs : List Value} {ltv : Value → Value → Bool} {Q : Value → Shared → Prop} (O : SrtO.Swo ltv) (hT : T = "list" ∨ T = "tuple")
    (ho : s.heap.get? l = some o) (hc : o.cls = .type T) (hd : o.data = .seq vs.toArray n) (hz : vs.length ≤ sizeLine)
    (hS : 2 ≤ vs.length → ∀ (h₁ : Heap) (a : Addr), h₁.get? a = some (seqObj "list" vs.toArray 0) → (∀ b o, s.heap.get? b = some o → b ≠ a ∧ h₁.get? b = some o) → SrtO.SortableO prog w A.in1.in1 { s with heap := h₁ } a vs ltv)
    (h : ∀ out : List Value, SrtO.Srtd ltv out → SrtO.Stb ltv out vs → Q (.ref (s.heap.objs.size + 1)) { s with heap := sortedAll s.heap vs out.toArray }) :
    wpAny (model prog w) A (call (.builtin "sorted") [.ref l]) Q E s := by
  refine PySem.Calls.call_function_entry kind_sorted plain_sorted entry_sorted (args_sorted1 _) ?_
  unfold Builtin.«sorted»
  refine wpAny_bind (m := checkCount "sorted" 1 1 _) (wpAny_pure ?_)
  refine wpAny_bind (collect_exact l hT ho hc hd (by rw [List.size_toArray]; exact hz) ?_)
  rw [List.toList_toArray]
  refine wpAny_bind (wpAny_newList ?_ hz)
  have hsz : ((s.heap.push (seqObj "list" #[] 0)).update s.heap.objs.size (Obj.mapSeq (· ++ vs.toArray))).objs.size = s.heap.objs.size + 1 := by
    rw [Heap.size_update, size_push']
  have hoL : (((s.heap.push (seqObj "list" #[] 0)).update s.heap.objs.size (Obj.mapSeq (· ++ vs.toArray))).push (seqObj "list" vs.toArray 0)).get? (s.heap.objs.size + 1) = some (seqObj "list" vs.toArray 0) := by
    rw [← hsz]; exact Heap.get?_push_size _ rfl
  have keep : ∀ b o, s.heap.get? b = some o → b ≠ s.heap.objs.size + 1 ∧ (((s.heap.push (seqObj "list" #[] 0)).update s.heap.objs.size (Obj.mapSeq (· ++ vs.toArray))).push (seqObj "list" vs.toArray 0)).get? b = some o := fun b o q => by
    have hlt : b < s.heap.objs.size := Heap.lt_size q
    refine ⟨Nat.ne_of_lt (Nat.lt_succ_of_lt hlt), Heap.get?_push_of_some _ ?_⟩
    rw [Heap.get?_update_ne _ _ _ _ (Nat.ne_of_lt hlt)]
    exact Heap.get?_push_of_some _ q
  show wpAny _ _ _ _ _ { s with heap := ((s.heap.push (seqObj "list" #[] 0)).update s.heap.objs.size (Obj.mapSeq (· ++ vs.toArray))).push (seqObj "list" vs.toArray 0) }
  rw [hsz]
  refine wpAny_bind (wpAny_holding (wpAny_call_entry slot_list_sort ⟨_, hoL, rfl⟩ entry_list_sort (SrtO.list_sort_ord O hoL hz (fun h2 => hS h2 _ _ hoL keep) fun out hs hb => ⟨_, rfl, ?_⟩) (args_list_sort _)))
  exact wpAny_pure ⟨_, rfl, h out hs hb⟩
end
/-- a list or a tuple -/
def SqS (K : PySem.W.Frag) (H : Hp) (a : Addr) (xs : List V) : Prop := SqL K H a xs ∨ SqT K H a xs
section
variable {X : Cx} {pins : List (Addr × Obj)} {σ : L2.St} {H : Hp} {s : Shared}
theorem sqs_at (I : Inv X pins σ H s) {a : Addr} {xs : List V} (h : SqS X.K H a xs) : ∃ (its : List Value) (T : String) (o : Obj) (n : Nat), Vals xs its ∧ (T = "list" ∨ T = "tuple") ∧ s.heap.get? a = some o ∧ o.cls = .type T ∧ o.data = .seq its.toArray n ∧ its.length ≤ sizeLine := by
  rcases h with h | h
  · obtain ⟨its, rv, hl, hz⟩ := I.list h
    obtain ⟨o, ho, hc, n, hd⟩ := hl.isList
    exact ⟨its, "list", o, n, rv, .inl rfl, ho, hc, hd, by rw [← rv.length]; exact hz⟩
  · obtain ⟨its, rv, ⟨o, ho, hc, n, hd⟩, hz⟩ := I.tuple h
    exact ⟨its, "tuple", o, n, rv, .inr rfl, ho, hc, hd, by rw [← rv.length]; exact hz⟩
end
def rSrtI (K : PySem.W.Frag) : List V → Hp → VK → Prop := fun vs H Q => ∃ (a : Addr) (ns : List Int), vs = [V.ref a] ∧ SqS K H a (ns.map V.int) ∧
  ∀ (ns' : List Int) (p : Addr), ns'.Perm ns → ns'.Pairwise (· ≤ ·) → H p = none → Q (.ref p) (upd H p (.lst (ns'.map V.int)))
def rSrtP (K : PySem.W.Frag) : List V → Hp → VK → Prop := fun vs H Q => ∃ (a : Addr) (xs : List V) (ps : List (Int × Int)), vs = [V.ref a] ∧ SqS K H a xs ∧ xs.length = ps.length ∧
  (∀ (i : Nat) (x : V) (p : Int × Int), xs[i]? = some x → ps[i]? = some p → ∃ t, x = V.ref t ∧ SqT K H t [V.int p.1, V.int p.2]) ∧
  ∀ (ys : List V) (qs : List (Int × Int)) (d : Addr), ys.length = qs.length → (ys.zip qs).Perm (xs.zip ps) → qs.Pairwise leQ → H d = none → Q (.ref d) (upd H d (.lst ys))
section
variable {X : Cx}
theorem cr_srtI : CallR X (.builtin "sorted") (rSrtI X.K) := by
  intro pins s σ H vs us Q I r h
  obtain ⟨a, ns, rfl, hs, q⟩ := h
  obtain ⟨its, T, o, n, rv, hT, ho, hc, hd, hz⟩ := sqs_at I hs
  rw [Vals.ref1 r]
  have hi := rv.ints
  refine sorted_seq SrtO.swo_int hT ho hc hd hz (fun h2 h₁ a' _ _ => SrtO.ints_sortable hi h2) fun out h1 h2 => ?_
  obtain ⟨k1, k2, k3⟩ := SrtO.ints_out hi h1 h2
  obtain ⟨ep, he'⟩ := PyProof.Rows.sortedAll_at s.heap its out.toArray
  have hlen : ((out.map SrtO.iv).map V.int).length ≤ sizeLine := by
    rw [List.length_map, k2.length_eq, ← List.length_map (f := V.int), rv.length]
    exact hz
  exact ⟨.ref _, upd H (s.heap.objs.size + 1) (.lst ((out.map SrtO.iv).map V.int)), I.laid (t' := s.toks) (fun _ _ => PyProof.Rows.sortedAll_old) (Nat.le_succ _) ⟨hlen, out, ep, vals_of_ints k1, he'⟩, rfl, q _ _ k2 k3 (I.hok.fresh (Nat.le_succ _))⟩
/-- the two ints of a pair, out of the heap -/
def kOf (h : Heap) : Value → Int × Int
  | .ref t => match h.get? t with
    | some o => match o.data with
      | .seq xs _ => match xs.toList with
        | [.int i _, .int j _] => (i, j)
        | _ => (0, 0)
      | _ => (0, 0)
    | none => (0, 0)
  | _ => (0, 0)
theorem cr_srtP : CallR X (.builtin "sorted") (rSrtP X.K) := by
  intro pins s σ H vs us Q I r h
  obtain ⟨a, xs, ps, rfl, hs, hl, hx, q⟩ := h
  obtain ⟨its, T, o, n, rv, hT, ho, hc, hd, hz⟩ := sqs_at I hs
  rw [Vals.ref1 r]
  have hit : its.length = xs.length := rv.length.symm
  -- each item
  have one : ∀ i x p, xs[i]? = some x → ps[i]? = some p → ∃ t, x = V.ref t ∧ Srt.IsPair s.heap (.ref t) p.1 p.2 ∧ kOf s.heap (.ref t) = p := fun i x p e1 e2 => by
    obtain ⟨t, rfl, ht⟩ := hx i x p e1 e2
    obtain ⟨its2, r2, ⟨o2, ho2, hc2, n2, hd2⟩, _⟩ := I.tuple ht
    obtain ⟨u1, u2, rfl, ri, rj⟩ := vals2 r2
    obtain ⟨t1, rfl⟩ := ri
    obtain ⟨t2, rfl⟩ := rj
    refine ⟨t, rfl, ⟨t, o2, t1, t2, n2, rfl, ho2, hc2, hd2⟩, ?_⟩
    simp [kOf, ho2, hd2]
  have refs : ∀ x ∈ xs, ∃ t, x = V.ref t := fun x hm => by
    obtain ⟨i, hi, rfl⟩ := List.mem_iff_getElem.mp hm
    obtain ⟨t, e, _⟩ := one i _ ps[i] (List.getElem?_eq_getElem hi) (List.getElem?_eq_getElem (by omega))
    exact ⟨t, e⟩
  obtain ⟨e1, e2⟩ := refs_back rv refs
  have key : its.map (kOf s.heap) = ps := by
    refine List.ext_getElem (by rw [List.length_map]; omega) fun i h1 h2 => ?_
    rw [List.length_map] at h1
    obtain ⟨t, ht⟩ := e2 its[i] (List.getElem_mem h1)
    have ex : xs[i]? = some (V.ref t) := by
      rw [e1, List.getElem?_map, List.getElem?_eq_getElem h1, ht]
      rfl
    obtain ⟨t', et, _, hk⟩ := one i _ ps[i] ex (List.getElem?_eq_getElem h2)
    cases et
    rw [List.getElem_map, ht, hk]
  have pair : ∀ v ∈ its, Srt.IsPair s.heap v (kOf s.heap v).1 (kOf s.heap v).2 := fun v hv => by
    obtain ⟨i, hi, rfl⟩ := List.mem_iff_getElem.mp hv
    obtain ⟨t, ht⟩ := e2 its[i] hv
    have ex : xs[i]? = some (V.ref t) := by
      rw [e1, List.getElem?_map, List.getElem?_eq_getElem hi, ht]
      rfl
    obtain ⟨t', et, hp, hk⟩ := one i _ ps[i] ex (List.getElem?_eq_getElem (by omega))
    cases et
    rw [ht, hk]
    exact hp
  refine sorted_seq (SrtO.swo_lex (kOf s.heap)) hT ho hc hd hz (fun h2 h₁ a ha kk => ?_) fun out hs hb => ?_
  · refine SrtO.pairs_sortableO (s := { s with heap := h₁ }) (by omega) (fun v hm => (pair v hm).keeps fun b o e _ => (kk b o e).2) fun o e => ?_
    have e' : some o = some (seqObj "list" its.toArray 0) := e.symm.trans ha
    cases e'
    intro c
    exact absurd (Value.type.inj c) (by decide)
  · have h3 : ∀ u ∈ out, ∃ a, u = Value.ref a := fun u hu => e2 u (hb.perm.mem_iff.mp hu)
    obtain ⟨ep, he'⟩ := PyProof.Rows.sortedAll_at s.heap its out.toArray
    have hol : out.length = its.length := hb.perm.length_eq
    refine ⟨.ref _, upd H (s.heap.objs.size + 1) (.lst (out.map backV)), I.laid (t' := s.toks) (fun _ _ => PyProof.Rows.sortedAll_old) (Nat.le_succ _) ⟨by rw [List.length_map, hol]; exact hz, out, ep, vals_back h3, he'⟩, rfl, ?_⟩
    refine q (out.map backV) (out.map (kOf s.heap)) _ (by rw [List.length_map, List.length_map]) ?_ ?_ (I.hok.fresh (Nat.le_succ _))
    · have z : ∀ l : List Value, (l.map backV).zip (l.map (kOf s.heap)) = l.map fun u => (backV u, kOf s.heap u) := fun l => by
        induction l with
        | nil => rfl
        | cons x l ih => simp [ih]
      rw [z, ← key, e1, z]
      exact hb.perm.map _
    · refine List.pairwise_map.mpr (hs.imp fun {x y} h => ?_)
      have := SrtO.lexB_no.mp h
      unfold leQ
      omega
end
end Rk

set_option maxHeartbeats 4000000
namespace Rk
open PySem PySem.Spec PyProof.Rows L2
/-- sum of a tuple of ints -/
theorem cr_sumT {X : Cx} (hc : X.calm = true) : CallR X (.builtin "sum") (fun vs H Q => ∃ (a : Addr) (ns : List Int), vs = [V.ref a] ∧ SqT X.K H a (ns.map V.int) ∧ Q (.int ns.sum) H) := by
  intro pins s σ H vs us Q I r h
  obtain ⟨a, ns, rfl, hs, q⟩ := h
  obtain ⟨its, rv, ht, _⟩ := I.tuple hs
  rw [Vals.ref1 r]
  have hi : IntsAre its ns := rv.ints
  obtain ⟨xs, e⟩ := hi.allInts.items
  have hn : numsOf (intItems xs).toList = ns := by rw [← e]; exact hi.numsOf
  rw [nums_intItems] at hn
  have ht : s.heap.IsTuple a its.toArray := ht
  rw [e] at ht
  have lt : a < s.heap.objs.size := by
    obtain ⟨_, z, _⟩ := ht
    exact Heap.lt_size z
  refine call_sum_walkG (wpAny_pyIter_tuple ht ?_)
  refine ⟨s.heap.objs.size, [s.heap.objs.size, a], [s.heap.objs.size], _, _, _, numAt xs, rfl, Walks.tuple (A := X.A.in1) (I.ok.hd hc) s.heap.objs.size a (Nat.ne_of_lt lt) (intItems xs), ⟨⟨_, Heap.get?_push_size _ rfl, rfl, rfl⟩, ht.push _⟩, fun b hb => ?_, fun _ _ => intItems_at, fun h' tk t' hk => ?_⟩
  · rw [Heap.size_push]
    rcases List.mem_cons.mp hb with rfl | hb
    · exact Nat.lt_succ_self _
    · rcases List.mem_cons.mp hb with rfl | hb
      · exact Nat.lt_succ_of_lt lt
      · cases hb
  · have keep : ∀ b o, s.heap.get? b = some o → h'.get? b = some o := fun b o z => hk b o (by
      simp only [List.mem_singleton]
      exact Nat.ne_of_lt (Heap.lt_size z)) (Heap.get?_push_of_some _ z)
    have : preSum (numAt xs) (intItems xs).size = ns.sum := by
      rw [show (intItems xs).size = xs.size by simp [intItems], preSum_eq, List.take_of_length_le (by simp), hn]
    rw [this]
    exact ⟨.int ns.sum, H, I.kept keep, ⟨_, rfl⟩, q⟩
section
variable {C : Cfg} {g g' : Gh} {H H' : Hp} {X : Cx}

theorem cutA_V (xs : List V) (lo hi : Option Int) : cutV xs lo hi = cutA xs lo hi := rfl
theorem RPs.cut {xs : List PV} {vs : List V} (r : RPs C g xs vs) (lo hi : Option Int) : RPs C g (cutA xs lo hi) (cutA vs lo hi) := by
  unfold cutA
  rw [← r.len]
  exact RPs.take _ (RPs.drop _ r)
theorem cutA_all {α : Type} {xs : List α} {lo hi : Option Int} (h : HT.sIx xs.length 0 lo = 0 ∧ HT.sIx xs.length xs.length hi = xs.length) : cutA xs lo hi = xs := by
  unfold cutA
  rw [h.1, h.2]
  simp

/-- a list or a tuple, by its place -/
theorem atI_rp {xs : List PV} {vs : List V} (r : RPs C g xs vs) {i : Int} {p : PV} (h : atI xs i = some p) : ∃ v, atI vs i = some v ∧ RP C g p v := by
  unfold atI at h ⊢
  rw [← r.len]
  cases e : ixN xs.length i with
  | none => rw [e] at h; cases h
  | some j =>
    rw [e] at h
    exact RPs.get r h
theorem ix_dk (hu : X.A.units + 64 < cLine) : IxR X (fun x y H Q => ∃ a v, x = .ref a ∧ DGet H a y (some v) ∧ Q v H) := by
  intro value slice pins s σ H x y v u Q I rx ry h hs
  obtain ⟨a, z, rfl, g, q⟩ := h
  obtain rfl : v = Value.ref a := rx
  have hT := dict_typeIs I g
  unfold subscriptTail
  refine wpAny_bind ?_
  rw [getitemInPython_of_ne hT.not_modules]
  refine wpAny_bind (wpAny_specialOf hT PySem.F.slot_dict_getitem.lookup ?_)
  have fin : wpAny (model X.prog X.w) X.A (subscripted slice false (.ref a) u) (fun r s3 => wpAny (model X.prog X.w) X.A (letTemporaryGo value (.ref a) r >>= fun _ => pure r) (EP X pins σ Q) X.xe s3) X.xe s := by
    rw [hs]
    exact wpAny_operating (d_getItem (by omega) I g ry fun w' s3 I3 rw' => wpAny_bind (wpAny_letTemporaryGo (wpAny_pure ⟨z, H, I3, rw', q⟩)))
  first
    | exact wpAny_pure (wpAny_bind fin)
    | exact wpAny_bind (wpAny_pure (wpAny_bind fin))
    | exact wpAny_bind fin
theorem idx_ok (hu : X.A.units + 64 < cLine) (hK : X.K = C.K) : ∃ r : R2, IxR X r ∧ ∀ (g : Gh) (H : Hp) (p q : PV) (x y : V) (Q : VK), W0 C g H → RPo C g H p x → RP C g q y → idxW p q (fun u => ∀ v, RP C g u v → Q v H) → r x y H Q := by
  have hor : ∀ {r r' : R2}, IxR X r → IxR X r' → IxR X (fun x y H Q => r x y H Q ∨ r' x y H Q) := fun h h' value slice pins s σ H x y v u Q I rx ry q hs => by
    rcases q with q | q
    · exact h value slice pins s σ H x y v u Q I rx ry q hs
    · exact h' value slice pins s σ H x y v u Q I rx ry q hs
  refine ⟨_, hor (hor ix_list ix_tup) (ix_dk hu), fun g H p q x y Q w r1 r2 h => ?_⟩
  cases p <;> cases q <;> simp only [idxW] at h
  · obtain ⟨a, vs, e, t, s⟩ := r1.tup w
    rw [← hK] at t
    have r2 : y = .int _ := r2
    split at h
    · rename_i u e2
      obtain ⟨v, e3, rv⟩ := atI_rp s e2
      exact .inl (.inr ⟨a, vs, _, v, e, r2, t, e3, h v rv⟩)
    · exact h.elim
  · obtain ⟨a, vs, e, t, s⟩ := r1.lst w
    have r2 : y = .int _ := r2
    split at h
    · rename_i u e2
      obtain ⟨v, e3, rv⟩ := atI_rp s e2
      exact .inl (.inl ⟨a, vs, _, v, e, r2, SqL.of t, e3, h v rv⟩)
    · exact h.elim
  · obtain ⟨a, vs, e, t, s⟩ := r1.dct w
    have r2 : y = .int _ := r2
    split at h
    · rename_i u e2
      obtain ⟨v, e3, rv⟩ := (s.at_ (k := .inl _)).1 u e2
      exact .inr ⟨a, v, e, .inl ⟨vs, .inl _, t, r2, e3.symm⟩, h v rv⟩
    · exact h.elim
  · obtain ⟨a, vs, e, t, s⟩ := r1.dct w
    have r2 : y = .str _ := r2
    split at h
    · rename_i u e2
      obtain ⟨v, e3, rv⟩ := (s.at_ (k := .inr _)).1 u e2
      exact .inr ⟨a, v, e, .inl ⟨vs, .inr _, t, r2, e3.symm⟩, h v rv⟩
    · exact h.elim

theorem slc_ok (hK : X.K = C.K) : ∃ r, SlR X r ∧ ∀ (g : Gh) (H : Hp) (p : PV) (x : V) (lo hi : Option Int) (Q : VK), W0 C g H → RPo C g H p x → slcW p lo hi (Out C g H Q) → r x lo hi H Q := by
  refine ⟨_, sl_list.or sl_tupA, fun g H p x lo hi Q w r h => ?_⟩
  cases p <;> simp only [slcW] at h
  · obtain ⟨a, vs, e, t, s⟩ := r.tup w
    rw [← hK] at t
    refine .inr ⟨a, vs, e, t, fun z => ?_, fun _ => h.tup w (RPs.cut s lo hi)⟩
    have z' := z
    rw [← s.len] at z'
    rw [cutA_all z'] at h
    rw [← e]
    exact h.now w (fun _ z => (by cases z)) (fun _ z => (by cases z)) r.tupR
  · obtain ⟨a, vs, e, t, s⟩ := r.lst w
    exact .inl ⟨a, vs, e, SqL.of t, h.lst w (RPs.cut s lo hi)⟩
  · rename_i ns
    obtain ⟨a, e, t⟩ := r.scr w
    rw [← hK] at t
    have ec : cutA (ns.map V.int) lo hi = (cutA ns lo hi).map V.int := by
      unfold cutA
      rw [List.length_map, List.map_take, List.map_drop]
    exact .inl ⟨a, _, e, t, h.lst w (by rw [cutA_V, ec]; exact RPs.ofInts _)⟩

/-! ### built-ins -/
theorem RPk.nilP {C : Cfg} {g : Gh} : RPk C g [] [] := rfl
theorem RPk.merge {C : Cfg} {g : Gh} : ∀ {ms : List (Key × PV)} {ws : List (Key × V)} {xs : List (Key × PV)} {vs : List (Key × V)}, RPk C g xs vs → RPk C g ms ws → RPk C g (mergeP xs ms) (mergeK vs ws)
  | [], _, _, _, h, t => by
    have t : _ = [] := t
    subst t
    exact h
  | (j, x) :: ms, _, xs, vs, h, t => by
    obtain ⟨v, r, rfl, h1, h2⟩ := t
    show RPk C g (mergeP (dp xs j x) ms) (mergeK (putK vs j v) r)
    exact RPk.merge (RPk.put h1 h) h2
theorem keyO_v {C : Cfg} {g : Gh} {p : PV} {k : Key} {v : V} (e : keyO p = some k) (h : RP C g p v) : v = kV k := by
  cases p <;> cases e <;> exact h
theorem RPs.prs {C : Cfg} {g : Gh} {H : Hp} (w : W0 C g H) : ∀ {xs : List PV} {vs : List V} {kvs : List (Key × PV)}, prsOf xs = some kvs → RPs C g xs vs → ∃ (qs : List Addr) (ws : List (Key × V)), vs = qs.map V.ref ∧ Paired (fun p kv => SqT C.K H p [kV kv.1, kv.2]) qs ws ∧ RPk C g kvs ws
  | [], _, _, e, h => by
    have h : _ = [] := h
    subst h
    cases e
    exact ⟨[], [], rfl, .nil, rfl⟩
  | x :: xs, _, kvs, e, h => by
    obtain ⟨v, r, rfl, h1, h2⟩ := h
    unfold prsOf at e
    split at e
    · rename_i e0
      cases e0
    · rename_i k y r' e0
      cases e0
      obtain ⟨j, e1, e2⟩ := Option.bind_eq_some_iff.mp e
      obtain ⟨ms, e3, e4⟩ := Option.map_eq_some_iff.mp e2
      subst e4
      obtain ⟨qs, ws, e5, e6, e7⟩ := RPs.prs w e3 h2
      obtain ⟨a, us, e8, e9, e10⟩ := h1
      obtain ⟨u1, r1, rfl, q1, q2⟩ := e10
      obtain ⟨u2, r2, rfl, q3, q4⟩ := q2
      have q4 : r2 = [] := q4
      subst q4
      have q5 := keyO_v e1 q1
      subst q5
      exact ⟨a :: qs, (j, u2) :: ws, by rw [e8, e5]; rfl, .cons (sqt_up w.sub e9) e6, ⟨u2, ws, rfl, q3, e7⟩⟩
    · cases e
theorem RPos.one {ps : List PV} {vs : List V} {p : PV} (h : RPos C g H [p] vs) : ∃ v, vs = [v] ∧ RPo C g H p v := by
  cases h with
  | cons h1 h2 =>
    cases h2
    exact ⟨_, rfl, h1⟩
theorem RPos.two {ps : List PV} {vs : List V} {p q : PV} (h : RPos C g H [p, q] vs) : ∃ v u, vs = [v, u] ∧ RPo C g H p v ∧ RPo C g H q u := by
  cases h with
  | cons h1 h2 =>
    obtain ⟨u, rfl, h3⟩ := RPos.one (ps := []) h2
    exact ⟨_, u, rfl, h1, h3⟩
theorem onSome_elim {α : Type} {o : Option α} {P : α → Prop} (h : onSome o P) : ∃ a, o = some a ∧ P a := by
  cases o with
  | none => exact h.elim
  | some a => exact ⟨a, rfl, h⟩

def bltF : Blt → Value
  | .len => .builtin "len"
  | .sum => .builtin "sum"
  | .min => .builtin "min"
  | .max => .builtin "max"
  | .abs => .builtin "abs"
  | .int => .type "int"
  | .str => .type "str"
  | .tuple => .type "tuple"
  | .list => .type "list"
  | .sorted => .builtin "sorted"
  | .all => .builtin "all"
  | .any => .builtin "any"
  | .repr => .builtin "repr"
  | .dict => .type "dict"
def BltOk (C : Cfg) (X : Cx) (f : Blt) : Prop := ∃ r, CallR X (bltF f) r ∧ ∀ (g : Gh) (H : Hp) (ps : List PV) (vs : List V) (Q : VK), W0 C g H → RPos C g H ps vs → bltW f ps (Out C g H Q) → r vs H Q

def rRepr (K : PySem.W.Frag) : List V → Hp → VK → Prop := fun xs H Q => ∃ x d, xs = [x] ∧ Dp K H x d ∧ d.showable = true ∧ d.hasDict = false ∧ d.depth ≤ 60 ∧ d.shown.length ≤ sizeLine ∧ Q (.str d.shown) H
theorem call_reprD (hg : X.A.guards = some []) (hu : X.A.units + 64 < cLine) : CallR X (.builtin "repr") (rRepr X.K) := by
  intro pins s σ H xs us Q I r h
  obtain ⟨x, d, rfl, dp, hs, hd, hp, hl, q⟩ := h
  obtain ⟨u, rfl, r1⟩ := vals1 r
  obtain ⟨as, rd⟩ := Dp.reads I d x u dp r1
  cases rd with
  | none => exact P.repr_of_none ⟨.str _, H, I.tok _, ⟨_, rfl⟩, q⟩
  | bool b => exact P.repr_of_bool ⟨.str _, H, I.tok _, ⟨_, rfl⟩, by simpa only [PyData.shown] using q⟩
  | int i t =>
    simp only [PyData.showable, decide_eq_true_eq] at hs
    exact P.repr_of_int hs ⟨.str _, H, I.tok _, ⟨_, rfl⟩, by simpa only [PyData.shown] using q⟩
  | str z t =>
    simp only [PyData.shown] at q hl
    exact P.repr_of_str ⟨.str _, H, I.tok _, ⟨_, rfl⟩, q⟩ hl
  | list h1 h2 h3 h4 =>
    exact repr_of_reads' (.list h1 h2 h3 h4) hs (PyData.noDict_hsm hd) hg (by omega) (fun _ _ e => e) (fun h' u tk hk => ⟨.str _, H, I.kept hk, ⟨_, rfl⟩, q⟩) hl
  | tuple h1 h2 h3 h4 =>
    exact repr_of_reads' (.tuple h1 h2 h3 h4) hs (PyData.noDict_hsm hd) hg (by omega) (fun _ _ e => e) (fun h' u tk hk => ⟨.str _, H, I.kept hk, ⟨_, rfl⟩, q⟩) hl
  | dict h1 h2 h3 h4 h5 =>
    simp only [PyData.hasDict] at hd
    cases hd
mutual
theorem noDict_plain : ∀ p : PV, p.plain = true → p.data.hasDict = false
  | .non, _ => by simp only [PV.data, PyData.hasDict]
  | .bl _, _ => by simp only [PV.data, PyData.hasDict]
  | .int _, _ => by simp only [PV.data, PyData.hasDict]
  | .str _, _ => by simp only [PV.data, PyData.hasDict]
  | .tup xs, h => by
    simp only [PV.data, PyData.hasDict]
    simp only [PV.plain] at h
    exact noDict_plains xs h
  | .lst xs, h => by
    simp only [PV.data, PyData.hasDict]
    simp only [PV.plain] at h
    exact noDict_plains xs h
  | .dct _, h => by simp only [PV.plain] at h; cases h
  | .tok _ _, h => by simp only [PV.plain] at h; cases h
  | .fn _, h => by simp only [PV.plain] at h; cases h
theorem noDict_plains : ∀ ps : List PV, PV.plains ps = true → PyData.hasDictAll (PV.datas ps) = false
  | [], _ => by simp only [PV.datas, PyData.hasDictAll]
  | p :: ps, h => by
    simp only [PV.plains, Bool.and_eq_true] at h
    simp only [PV.datas, PyData.hasDictAll]
    rw [noDict_plain p h.1, noDict_plains ps h.2]
    rfl
end

theorem intsW_at {as : List PV} {P : List Int → Prop} {vs : List V} (w : W0 C g H) (r : RPos C g H as vs) (h : intsW as P) : ∃ a ns, vs = [V.ref a] ∧ SqL X.K H a (ns.map V.int) ∧ P ns := by
  unfold intsW at h
  split at h
  · obtain ⟨v, rfl, r1⟩ := r.one (ps := [])
    obtain ⟨a, vs, rfl, t, s⟩ := r1.lst w
    obtain ⟨ns, e, h⟩ := onSome_elim h
    have e2 := RPs.ints e s
    subst e2
    exact ⟨a, ns, rfl, SqL.of t, h⟩
  · exact h.elim
theorem boolsW_at {as : List PV} {P : List Bool → Prop} {vs : List V} (w : W0 C g H) (r : RPos C g H as vs) (h : boolsW as P) : ∃ a ns, vs = [V.ref a] ∧ SqL X.K H a (ns.map V.bl) ∧ P ns := by
  unfold boolsW at h
  split at h
  · obtain ⟨v, rfl, r1⟩ := r.one (ps := [])
    obtain ⟨a, vs, rfl, t, s⟩ := r1.lst w
    obtain ⟨ns, e, h⟩ := onSome_elim h
    have e2 := RPs.bools e s
    subst e2
    exact ⟨a, ns, rfl, SqL.of t, h⟩
  · exact h.elim
theorem RPk.keys : ∀ {xs : List (Key × PV)} {vs : List (Key × V)}, RPk C g xs vs → RPs C g (xs.map fun z => keyP z.1) (vs.map fun z => kV z.1)
  | [], _, h => by
    rw [h]
    rfl
  | (j, x) :: xs, _, h => by
    obtain ⟨v, r, rfl, h1, h2⟩ := h
    exact ⟨kV j, _, rfl, keyP_r j, RPk.keys h2⟩
theorem RPk.keysI : ∀ {xs : List (Key × PV)} {vs : List (Key × V)} {ns : List Int}, RPk C g xs vs → keysI xs = some ns → vs.map (·.1) = ns.map Sum.inl
  | [], _, _, h, e => by
    rw [h]
    cases e
    rfl
  | (.inl i, x) :: xs, _, ns, h, e => by
    obtain ⟨v, r, rfl, h1, h2⟩ := h
    cases q : Rk.keysI xs with
    | none =>
      rw [Rk.keysI, q] at e
      cases e
    | some ms =>
      rw [Rk.keysI, q] at e
      cases e
      simp [RPk.keysI h2 q]
  | (.inr i, x) :: xs, _, ns, h, e => by cases e
theorem call_lenDk : CallR X (.builtin "len") (fun xs H Q => ∃ a kvs, xs = [V.ref a] ∧ Rd H a (.dK kvs) ∧ Q (.int (kvs.length : Nat)) H) := by
  intro pins s σ H vs us Q I r h
  obtain ⟨a, kvs, rfl, e, q⟩ := h
  rw [Vals.ref1 r]
  exact d_len I e fun t s2 I2 => ⟨.int kvs.length, H, I2, ⟨t, rfl⟩, q⟩

theorem blt_ok (hK : X.K = C.K) (hc : X.calm = true) (hg : X.A.guards = some []) (hu : X.A.units + 64 < cLine) : ∀ f : Blt, BltOk C X f
  | .len => by
    refine ⟨_, call_len_seq.or (call_len_str.or call_lenDk), fun g H ps vs Q w r h => ?_⟩
    have h : lenW ps (Out C g H Q) := h
    unfold lenW at h
    split at h
    · obtain ⟨v, rfl, r1⟩ := r.one (ps := [])
      obtain ⟨a, vs, rfl, t, s⟩ := r1.tup w
      rw [← hK] at t
      exact .inl ⟨a, vs, rfl, .inr t, by rw [← s.len]; exact h.now w (fun _ z => (by cases z)) (fun _ z => (by cases z)) rfl⟩
    · obtain ⟨v, rfl, r1⟩ := r.one (ps := [])
      obtain ⟨a, vs, rfl, t, s⟩ := r1.lst w
      exact .inl ⟨a, vs, rfl, .inl (SqL.of t), by rw [← s.len]; exact h.now w (fun _ z => (by cases z)) (fun _ z => (by cases z)) rfl⟩
    · obtain ⟨v, rfl, r1⟩ := r.one (ps := [])
      exact .inr (.inl ⟨_, by rw [r1.str], h.1, h.2.now w (fun _ z => (by cases z)) (fun _ z => (by cases z)) rfl⟩)
    · obtain ⟨v, rfl, r1⟩ := r.one (ps := [])
      obtain ⟨a, vs, rfl, t, s⟩ := r1.dct w
      exact .inr (.inr ⟨a, vs, rfl, t, by rw [← s.len]; exact h.now w (fun _ z => (by cases z)) (fun _ z => (by cases z)) rfl⟩)
    · obtain ⟨v, rfl, r1⟩ := r.one (ps := [])
      obtain ⟨a, rfl, t⟩ := r1.scr w
      rw [← hK] at t
      exact .inl ⟨a, _, rfl, .inl t, by rw [List.length_map]; exact h.now w (fun _ z => (by cases z)) (fun _ z => (by cases z)) rfl⟩
    · exact h.elim
  | .sum => by
    refine ⟨_, (cr_sum hc).or (cr_sumT hc), fun g H ps vs Q w r h => ?_⟩
    have h : sumW ps (fun ns => Out C g H Q (.int ns.sum)) := h
    unfold sumW at h
    split at h
    · obtain ⟨ns, e, h⟩ := onSome_elim h
      obtain ⟨v, rfl, r1⟩ := r.one (ps := [])
      obtain ⟨a, vs, rfl, t, s⟩ := r1.lst w
      have ev := RPs.ints e s
      subst ev
      exact .inl ⟨a, ns, rfl, SqL.of t, h.now w (fun _ z => (by cases z)) (fun _ z => (by cases z)) rfl⟩
    · obtain ⟨ns, e, h⟩ := onSome_elim h
      obtain ⟨v, rfl, r1⟩ := r.one (ps := [])
      obtain ⟨a, vs, rfl, t, s⟩ := r1.tup w
      have ev := RPs.ints e s
      subst ev
      rw [← hK] at t
      exact .inr ⟨a, ns, rfl, t, h.now w (fun _ z => (by cases z)) (fun _ z => (by cases z)) rfl⟩
    · exact h.elim
  | .min => by
    refine ⟨_, ((cr_min hc).or (cr_minT hc)).or (call_min2 hc), fun g H ps vs Q w r h => ?_⟩
    have h : minW ps (Out C g H Q) := h
    unfold minW at h
    split at h
    · obtain ⟨v, u, rfl, r1, r2⟩ := r.two (ps := [])
      exact .inr ⟨_, _, by rw [r1.int, r2.int], h.now w (fun _ z => (by cases z)) (fun _ z => (by cases z)) rfl⟩
    · unfold sumW at h
      split at h
      · obtain ⟨ns, e, h1, h⟩ := onSome_elim h
        obtain ⟨v, rfl, r1⟩ := r.one (ps := [])
        obtain ⟨a, vs, rfl, t, s⟩ := r1.lst w
        have ev := RPs.ints e s
        subst ev
        exact .inl (.inl ⟨a, ns, rfl, SqL.of t, h1, fun m h1 h2 => (h m h1 h2).now w (fun _ z => (by cases z)) (fun _ z => (by cases z)) rfl⟩)
      · obtain ⟨ns, e, h1, h⟩ := onSome_elim h
        obtain ⟨v, rfl, r1⟩ := r.one (ps := [])
        obtain ⟨a, vs, rfl, t, s⟩ := r1.tup w
        have ev := RPs.ints e s
        subst ev
        rw [← hK] at t
        exact .inl (.inr ⟨a, ns, rfl, t, h1, fun m h1 h2 => (h m h1 h2).now w (fun _ z => (by cases z)) (fun _ z => (by cases z)) rfl⟩)
      · exact h.elim
  | .max => by
    refine ⟨_, ((cr_max hc).or (cr_maxT hc)).or (call_max2 hc), fun g H ps vs Q w r h => ?_⟩
    have h : maxW ps (Out C g H Q) := h
    unfold maxW at h
    split at h
    · obtain ⟨v, u, rfl, r1, r2⟩ := r.two (ps := [])
      exact .inr ⟨_, _, by rw [r1.int, r2.int], h.now w (fun _ z => (by cases z)) (fun _ z => (by cases z)) rfl⟩
    · unfold sumW at h
      split at h
      · obtain ⟨ns, e, h1, h⟩ := onSome_elim h
        obtain ⟨v, rfl, r1⟩ := r.one (ps := [])
        obtain ⟨a, vs, rfl, t, s⟩ := r1.lst w
        have ev := RPs.ints e s
        subst ev
        exact .inl (.inl ⟨a, ns, rfl, SqL.of t, h1, fun m h1 h2 => (h m h1 h2).now w (fun _ z => (by cases z)) (fun _ z => (by cases z)) rfl⟩)
      · obtain ⟨ns, e, h1, h⟩ := onSome_elim h
        obtain ⟨v, rfl, r1⟩ := r.one (ps := [])
        obtain ⟨a, vs, rfl, t, s⟩ := r1.tup w
        have ev := RPs.ints e s
        subst ev
        rw [← hK] at t
        exact .inl (.inr ⟨a, ns, rfl, t, h1, fun m h1 h2 => (h m h1 h2).now w (fun _ z => (by cases z)) (fun _ z => (by cases z)) rfl⟩)
      · exact h.elim
  | .abs => by
    refine ⟨_, call_abs, fun g H ps vs Q w r h => ?_⟩
    have h : absW ps (Out C g H Q) := h
    unfold absW at h
    split at h
    · obtain ⟨v, rfl, r1⟩ := r.one (ps := [])
      exact ⟨_, by rw [r1.int], h.now w (fun _ z => (by cases z)) (fun _ z => (by cases z)) rfl⟩
    · exact h.elim
  | .int => by
    refine ⟨_, call_int1, fun g H ps vs Q w r h => ?_⟩
    have h : intW ps (Out C g H Q) := h
    unfold intW at h
    split at h
    · obtain ⟨v, rfl, r1⟩ := r.one (ps := [])
      exact .inl ⟨_, by rw [r1.int], h.now w (fun _ z => (by cases z)) (fun _ z => (by cases z)) rfl⟩
    · obtain ⟨v, rfl, r1⟩ := r.one (ps := [])
      exact .inr ⟨_, by rw [r1.bl], h.now w (fun _ z => (by cases z)) (fun _ z => (by cases z)) rfl⟩
    · exact h.elim
  | .str => by
    refine ⟨_, call_str_int, fun g H ps vs Q w r h => ?_⟩
    have h : strW ps (Out C g H Q) := h
    unfold strW at h
    split at h
    · obtain ⟨v, rfl, r1⟩ := r.one (ps := [])
      exact ⟨_, by rw [r1.int], h.1, h.2.now w (fun _ z => (by cases z)) (fun _ z => (by cases z)) rfl⟩
    · exact h.elim
  | .tuple => by
    refine ⟨_, call_tuple_of, fun g H ps vs Q w r h => ?_⟩
    have h : tupW ps (Out C g H Q) := h
    unfold tupW at h
    split at h
    · obtain ⟨v, rfl, r1⟩ := r.one (ps := [])
      obtain ⟨a, vs, rfl, t, s⟩ := r1.lst w
      exact ⟨a, vs, rfl, .inl ⟨SqL.of t, h.tup w s⟩⟩
    · obtain ⟨v, rfl, r1⟩ := r.one (ps := [])
      obtain ⟨a, vs, rfl, t, s⟩ := r1.tup w
      rw [← hK] at t
      exact ⟨a, vs, rfl, .inr ⟨t, h.now w (fun _ z => (by cases z)) (fun _ z => (by cases z)) r1.tupR⟩⟩
    · exact h.elim
  | .list => by
    refine ⟨_, call_list_of.or (call_listD hc), fun g H ps vs Q w r h => ?_⟩
    have h : listW ps (Out C g H Q) := h
    unfold listW at h
    split at h
    · obtain ⟨v, rfl, r1⟩ := r.one (ps := [])
      obtain ⟨a, vs, rfl, t, s⟩ := r1.lst w
      exact .inl ⟨a, vs, rfl, .inl (SqL.of t), h.lst w s⟩
    · obtain ⟨v, rfl, r1⟩ := r.one (ps := [])
      obtain ⟨a, vs, rfl, t, s⟩ := r1.tup w
      rw [← hK] at t
      exact .inl ⟨a, vs, rfl, .inr t, h.lst w s⟩
    · obtain ⟨v, rfl, r1⟩ := r.one (ps := [])
      obtain ⟨a, vs, rfl, t, s⟩ := r1.dct w
      exact .inr ⟨a, vs, rfl, t, h.lst w s.keys⟩
    · exact h.elim
  | .dict => by
    refine ⟨_, call_dictD.or (call_dictP hc), fun g H ps vs Q w r h => ?_⟩
    have h : dictW ps (Out C g H Q) := h
    unfold dictW at h
    split at h
    · obtain ⟨v, rfl, r1⟩ := r.one (ps := [])
      obtain ⟨a, vs, rfl, t, s⟩ := r1.dct w
      exact .inl ⟨a, vs, rfl, t, h.dct w s⟩
    · obtain ⟨v, rfl, r1⟩ := r.one (ps := [])
      obtain ⟨a, vs, rfl, t, s⟩ := r1.lst w
      obtain ⟨kvs, e, h⟩ := onSome_elim h
      obtain ⟨qs, ws, e1, e2, e3⟩ := RPs.prs w e s
      subst e1
      rw [← hK] at e2
      exact .inr ⟨a, qs, ws, rfl, SqL.of t, e2, h.dct w (RPk.merge .nilP e3)⟩
    · exact h.elim
  | .sorted => by
    refine ⟨_, (cr_srtI.or cr_srtP).or (call_sortedDI hc), fun g H ps vs Q w r h => ?_⟩
    have h : sortW ps (Out C g H Q) := h
    unfold sortW at h
    split at h
    · obtain ⟨ns, ex, h1, h⟩ := onSome_elim h
      obtain ⟨v, rfl, r1⟩ := r.one (ps := [])
      obtain ⟨a, vs, rfl, t, s⟩ := r1.dct w
      exact .inr ⟨a, vs, ns, rfl, t, s.keysI ex, h1, fun ns' p h2 h3 n => (h ns' h2 h3).lst w (RPs.ofInts ns') p n⟩
    refine .inl ?_
    obtain ⟨xs, ex, h⟩ := onSome_elim h
    have hs : ∃ a us, vs = [V.ref a] ∧ SqS X.K H a us ∧ RPs C g xs us := by
      unfold sq1 at ex
      split at ex
      · simp only [Option.some.injEq] at ex
        subst ex
        obtain ⟨v, rfl, r1⟩ := r.one (ps := [])
        obtain ⟨a, us, rfl, t, s⟩ := r1.lst w
        exact ⟨a, us, rfl, .inl (SqL.of t), s⟩
      · simp only [Option.some.injEq] at ex
        subst ex
        obtain ⟨v, rfl, r1⟩ := r.one (ps := [])
        obtain ⟨a, us, rfl, t, s⟩ := r1.tup w
        rw [← hK] at t
        exact ⟨a, us, rfl, .inr t, s⟩
      · cases ex
    obtain ⟨a, us, rfl, t, s⟩ := hs
    unfold srtW at h
    split at h
    · rename_i ns e
      have e2 := RPs.ints e s
      subst e2
      exact .inl ⟨a, ns, rfl, t, fun ns' p h1 h2 n => (h ns' h1 h2).lst w (RPs.ofInts ns') p n⟩
    · obtain ⟨qs, e, h⟩ := onSome_elim h
      obtain ⟨k1, k2⟩ := RPs.pairs e s
      refine .inr ⟨a, us, qs, rfl, t, k1, fun i x p e1 e2 => ?_, fun ys ms d hl hp hw n => ?_⟩
      · obtain ⟨b, ws, rfl, st, sw⟩ := k2 i x p e1 e2
        obtain ⟨v1, r1, rfl, z1, sw⟩ := sw
        obtain ⟨v2, r2, rfl, z2, sw⟩ := sw
        have sw : r2 = [] := sw
        subst sw
        have z1 : v1 = .int p.1 := z1
        have z2 : v2 = .int p.2 := z2
        subst z1
        subst z2
        rw [hK]
        exact ⟨b, rfl, sqt_up w.sub st⟩
      · have hm : ms.Perm qs := by
          have := hp.map Prod.snd
          rwa [List.map_snd_zip (by omega), List.map_snd_zip (by omega)] at this
        refine (h ms hm hw).lst w (RPs.ofPairs hl fun y p hz => ?_) d n
        have hz := hp.mem_iff.mp hz
        obtain ⟨i, hi, e1⟩ := List.mem_iff_getElem.mp hz
        rw [List.getElem_zip] at e1
        rw [List.length_zip] at hi
        obtain ⟨e2, e3⟩ := Prod.mk.inj e1
        exact k2 i y p (by rw [List.getElem?_eq_getElem (by omega), e2]) (by rw [List.getElem?_eq_getElem (by omega), e3])
  | .all => by
    refine ⟨_, cr_all hc, fun g H ps vs Q w r h => ?_⟩
    obtain ⟨a, ns, e, t, h⟩ := boolsW_at w r h
    exact ⟨a, ns, e, t, h.now w (fun _ z => (by cases z)) (fun _ z => (by cases z)) rfl⟩
  | .any => by
    refine ⟨_, cr_any hc, fun g H ps vs Q w r h => ?_⟩
    obtain ⟨a, ns, e, t, h⟩ := boolsW_at w r h
    exact ⟨a, ns, e, t, h.now w (fun _ z => (by cases z)) (fun _ z => (by cases z)) rfl⟩
  | .repr => by
    refine ⟨_, call_reprD hg hu, fun g H ps vs Q w r h => ?_⟩
    have h : reprW ps (Out C g H Q) := h
    unfold reprW at h
    split at h
    · obtain ⟨v, rfl, r1⟩ := r.one (ps := [])
      obtain ⟨h1, h2, h3, h4, h⟩ := h
      exact ⟨v, _, rfl, hK ▸ r1.dp w h1, h2, noDict_plain _ h1, h3, h4, h.now w (fun _ z => (by cases z)) (fun _ z => (by cases z)) rfl⟩
    · exact h.elim
end
end Rk

set_option maxHeartbeats 4000000
namespace Rk
open PySem PySem.Spec PyProof.Rows L2

/-! ### the program's names, the check of resolved syntax against the text -/
/-- where one stands: in an except suite; in a def that was handed something to call; it may be called here; lambdas are made, so much room for them -/
structure Flags where
  hot : Bool
  wd : Bool
  tc : Bool
  lm : Bool
  up : Nat
abbrev f0 : Flags := ⟨false, false, false, false, 0⟩
structure Nms where
  N : List Str
  fn : Nat → Option Str
  cn : Nat → Option Str
  wn : Nat → Option Str
  cl : Nat → Option Str
  fl : Flags
def Nms.cold (n : Nms) : Bool := !n.fl.hot && !n.fl.wd
def noPar : Arguments → Bool
  | ⟨[], [], none, [], [], none, []⟩ => true
  | _ => false

def okName (x : Str) : Bool := !(x == ("__debug__" : Str)) && !(x == ("__classdict__" : Str)) && decide (x ≠ "__name__")
def vis (sc : Scope) (x : Str) : Bool := decide (sc.names.lookup x = some .local) || decide (sc.names.lookup x = some .cell) || decide (sc.names.lookup x = some .free)
def loc (sc : Scope) (x : Str) : Bool := decide (sc.names.lookup x = some .local) || decide (sc.names.lookup x = some .cell)
def glo (sc : Scope) (x : Str) : Bool := decide (sc.names.lookup x = some .globalImplicit) && okName x
def notStar : Expr → Bool
  | .Starred _ _ => false
  | _ => true
def notSlice : Expr → Bool
  | .Slice _ _ _ _ => false
  | _ => true
def notSet : Expr → Bool
  | .Set _ _ _ => false
  | _ => true
def notComp : Expr → Bool
  | .ListComp _ _ _ _ => false
  | .SetComp _ _ _ _ => false
  | .DictComp _ _ _ _ _ => false
  | _ => true
/-- a test that is its value's truth -/
def plainT : Expr → Bool
  | .UnaryOp .Not _ _ => false
  | .BoolOp _ _ _ => false
  | .IfExp _ _ _ _ => false
  | .Compare _ _ _ _ => false
  | _ => true
structure Chk where
  e : Scope → Expr → Bool
  a : Scope → List Expr → Bool
  i : Scope → Expr → Bool
def Chk.ofE (e : Scope → Expr → Bool) : Chk := ⟨fun sc x => notStar x && notSet x && notSlice x && e sc x, fun _ _ => false, fun sc x => notStar x && notSet x && notSlice x && e sc x⟩
def Chk.ofA (a : Scope → List Expr → Bool) : Chk := ⟨fun _ _ => false, a, fun _ _ => false⟩
def Chk.ofI (i : Scope → Expr → Bool) : Chk := ⟨fun _ _ => false, fun _ _ => false, fun sc x => notSet x && i sc x⟩

def bltN : Blt → Str
  | .len => "len"
  | .sum => "sum"
  | .min => "min"
  | .max => "max"
  | .abs => "abs"
  | .int => "int"
  | .str => "str"
  | .tuple => "tuple"
  | .list => "list"
  | .sorted => "sorted"
  | .all => "all"
  | .any => "any"
  | .repr => "repr"
  | .dict => "dict"
def tyN : Ty → Str
  | .int => "int"
  | .bool => "bool"
  | .str => "str"
  | .tuple => "tuple"
  | .list => "list"
  | .dict => "dict"
def bltNames : List Str := ["len", "sum", "min", "max", "abs", "int", "str", "tuple", "list", "sorted", "all", "any", "repr", "bool", "dict", "range", "zip", "enumerate", "isinstance", "ValueError"]

def tysOk (sc : Scope) : List Ty → List Expr → Bool
  | [], [] => true
  | t :: ts, .Name x _ :: es => decide (x = tyN t) && glo sc x && tysOk sc ts es
  | _, _ => false
def isiOk (sc : Scope) (ts : List Ty) : Expr → Bool
  | .Name t _ => match ts with
    | [ty] => decide (t = tyN ty) && glo sc t
    | _ => false
  | .Tuple es _ _ => decide (ts.length ≤ 20) && tysOk sc ts es
  | _ => false
def tgOk (n : Nms) (sc : Scope) : Tg → (Expr → Bool) × (List Expr → Bool)
  | .nm i => ⟨fun e => match e with
      | .Name x _ => decide (n.N[i]? = some x) && loc sc x
      | _ => false, fun _ => false⟩
  | .tp ts => ⟨fun e => match e with
      | .Tuple es _ _ => (tgOk n sc ts).2 es
      | _ => false, fun _ => false⟩
  | .nil => ⟨fun _ => false, fun es => match es with
      | [] => true
      | _ => false⟩
  | .cons a b => ⟨fun _ => false, fun es => match es with
      | e :: r => (tgOk n sc a).1 e && (tgOk n sc b).2 r
      | [] => false⟩
def Tg.slots : Tg → List Nat
  | .nm i => [i]
  | .tp ts => ts.slots
  | .nil => []
  | .cons a b => a.slots ++ b.slots
def isTup : Tg → Bool
  | .tp _ => true
  | _ => false
def optL : Option Expr → List Expr
  | none => []
  | some y => [y]
def nameAt (n : Nms) (own : List Nat) : Option (List (Str × Nat)) := own.mapM fun i => (n.N[i]?).map fun x => (x, i)
def ownOf (n : Nms) (own : List Nat) : List (Str × Nat) := own.filterMap fun i => (n.N[i]?).map fun x => (x, i)

def attrOk : Expr → Bool
  | .Name _ _ => true
  | .Subscript _ _ _ => true
  | .ListComp _ _ _ _ => true
  | _ => false
def chk (n : Nms) : Ex → Chk
  | .var i => .ofE fun sc e => match e with
    | .Name x _ => decide (n.N[i]? = some x) && vis sc x && okName x
    | _ => false
  | .own i => .ofE fun sc e => match e with
    | .Name x _ => decide (n.N[i]? = some x) && vis sc x && okName x
    | _ => false
  | .non => .ofE fun _ e => match e with
    | .Constant .none _ _ => true
    | _ => false
  | .tt b => .ofE fun _ e => match e with
    | .Constant (.bool c) _ _ => b == c
    | _ => false
  | .int i => .ofE fun _ e => match e with
    | .Constant (.int c) _ _ => decide (i = c)
    | _ => false
  | .str s => .ofE fun _ e => match e with
    | .Constant (.str c) _ _ => decide (s = c)
    | _ => false
  | .con c => .ofE fun sc e => match e with
    | .Name x _ => decide (n.cn c = some x) && glo sc x
    | _ => false
  | .fnv k => .ofE fun sc e => match e with
    | .Name x _ => decide (n.fn k = some x) && glo sc x
    | _ => false
  | .neg a => .ofE fun sc e => match e with
    | .UnaryOp .USub x _ => (chk n a).e sc x
    | _ => false
  | .not a => .ofE fun sc e => match e with
    | .UnaryOp .Not x _ => (chk n a).e sc x
    | _ => false
  | .bin op a b => .ofE fun sc e => match e with
    | .BinOp x o y _ => (bopP op == o) && (chk n a).e sc x && (chk n b).e sc y
    | _ => false
  | .cmp op a b => .ofE fun sc e => match e with
    | .Compare x [o] [y] _ => (copP op == o) && (chk n a).e sc x && (chk n b).e sc y
    | _ => false
  | .cmp2 o1 o2 a b c => .ofE fun sc e => match e with
    | .Compare x [p, q] [y, z] _ => (copP o1 == p) && (copP o2 == q) && (chk n a).e sc x && (chk n b).e sc y && (chk n c).e sc z
    | _ => false
  | .and a b => .ofE fun sc e => match e with
    | .BoolOp .And (x :: y :: r) pos => (chk n a).e sc x && (chk n b).e sc (.BoolOp .And (y :: r) pos)
    | _ => false
  | .or a b => .ofE fun sc e => match e with
    | .BoolOp .Or (x :: y :: r) pos => (chk n a).e sc x && (chk n b).e sc (.BoolOp .Or (y :: r) pos)
    | _ => false
  | .one a => .ofE fun sc e => match e with
    | .BoolOp _ [x] _ => (chk n a).e sc x
    | _ => false
  | .ite c a b => .ofE fun sc e => match e with
    | .IfExp x y z _ => (chk n c).e sc x && (chk n a).e sc y && (chk n b).e sc z
    | _ => false
  | .call k as => .ofE fun sc e => match e with
    | .Call (.Name x _) es [] _ => decide (n.fn k = some x) && glo sc x && (chk n as).a sc es && n.cold
    | _ => false
  | .callv i m as => .ofE fun sc e => match e with
    | .Call (.Name x _) es [] _ => decide (n.N[i]? = some x) && vis sc x && okName x && n.cold && (List.range m).all (fun k => (n.fn k).isSome) && (chk n as).a sc es
    | _ => false
  | .blt f as => .ofE fun sc e => match e with
    | .Call (.Name x _) (y :: es) [] _ => decide (x = bltN f) && glo sc x && (chk n as).a sc (y :: es) && !n.fl.hot
    | _ => false
  | .isi a ts => .ofE fun sc e => match e with
    | .Call (.Name x _) [y, z] [] _ => decide (x = "isinstance") && glo sc x && (chk n a).e sc y && isiOk sc ts z
    | _ => false
  | .idx a b => .ofE fun sc e => match e with
    | .Subscript x y _ => (chk n a).e sc x && (chk n b).e sc y
    | _ => false
  | .slc a lo hi => .ofE fun sc e => match e with
    | .Subscript x (.Slice l h none _) _ => (chk n a).e sc x && (chk n lo).a sc (optL l) && (chk n hi).a sc (optL h)
    | _ => false
  | .rev a => .ofE fun sc e => match e with
    | .Subscript x (.Slice none none (some (.UnaryOp .USub (.Constant (.int i) _ _) _)) _) _ => decide (i = 1) && (chk n a).e sc x
    | _ => false
  | .tup as => .ofE fun sc e => match e with
    | .Tuple es _ _ => (chk n as).a sc es
    | _ => false
  | .lst as => .ofE fun sc e => match e with
    | .List es _ => (chk n as).a sc es
    | _ => false
  | .comp tg src cnd elt own => .ofE fun sc e => match e with
    | .ListComp x [⟨t, it, ifs, as⟩] scope _ => decide (as = 0) && (ownOf n own).length == own.length && own.length == own.eraseDups.length && blkC n.N sc scope (ownOf n own) && (tgOk n scope tg).1 t && tg.slots.all (fun i => own.contains i) && (chk n src).i sc it &&
        (!needTup src || isTup tg) &&
        (match ifs with
          | [] => cnd.isNil
          | [c] => !cnd.isNil && (chk n cnd).e (relS scope sc) c
          | _ => false) && (chk n elt).e (relS scope sc) x && n.cold
    | _ => false
  | .rng1 a => .ofI fun sc e => match e with
    | .Call (.Name x _) [y] [] _ => decide (x = "range") && glo sc x && (chk n a).e sc y
    | _ => false
  | .rng2 a b => .ofI fun sc e => match e with
    | .Call (.Name x _) [y, z] [] _ => decide (x = "range") && glo sc x && (chk n a).e sc y && (chk n b).e sc z
    | _ => false
  | .rng3 a b c => .ofI fun sc e => match e with
    | .Call (.Name x _) [y, z, u] [] _ => decide (x = "range") && glo sc x && (chk n a).e sc y && (chk n b).e sc z && (chk n c).e sc u
    | _ => false
  | .trg m lo hi => .ofE fun sc e => match e with
    | .Call (.Name x _) [.Call (.Name y _) [u] [] _] [] _ => decide (x = if m then "tuple" else "list") && glo sc x && decide (y = "range") && glo sc y && lo.isNil && (chk n hi).e sc u && !n.fl.hot
    | .Call (.Name x _) [.Call (.Name y _) [u, v] [] _] [] _ => decide (x = if m then "tuple" else "list") && glo sc x && decide (y = "range") && glo sc y && !lo.isNil && (chk n lo).e sc u && (chk n hi).e sc v && !n.fl.hot
    | _ => false
  | .zip a b => .ofI fun sc e => match e with
    | .Call (.Name x _) [y, z] [] _ => decide (x = "zip") && glo sc x && (chk n a).e sc y && (chk n b).e sc z
    | _ => false
  | .enum a => .ofI fun sc e => match e with
    | .Call (.Name x _) [y] [] _ => decide (x = "enumerate") && glo sc x && (chk n a).e sc y
    | _ => false
  | .lix a b => .ofE fun sc e => match e with
    | .Call (.Attribute x m ap) [y] [] cp => decide (m = "index") && (ap.endLine == cp.line) && attrOk x && (chk n a).e sc x && (chk n b).e sc y
    | _ => false
  | .cnt a b => .ofE fun sc e => match e with
    | .Call (.Attribute x m ap) [y] [] cp => decide (m = "count") && (ap.endLine == cp.line) && attrOk x && (chk n a).e sc x && (chk n b).e sc y
    | _ => false
  | .dnew => .ofE fun _ e => match e with
    | .Dict [] [] _ => true
    | _ => false
  | .dgt a k x => .ofE fun sc e => match e with
    | .Call (.Attribute o m ap) [y] [] cp => decide (m = "get") && (ap.endLine == cp.line) && attrOk o && x.isNil && (chk n a).e sc o && (chk n k).e sc y
    | .Call (.Attribute o m ap) [y, z] [] cp => decide (m = "get") && (ap.endLine == cp.line) && attrOk o && !x.isNil && (chk n a).e sc o && (chk n k).e sc y && (chk n x).e sc z
    | _ => false
  | .dvw b a => .ofI fun sc e => match e with
    | .Call (.Attribute o m ap) [] [] cp => decide (m = if b then "items" else "values") && (ap.endLine == cp.line) && attrOk o && (chk n a).e sc o
    | _ => false
  | .dco tg src cnd ky vl own => .ofE fun sc e => match e with
    | .DictComp kx vx [⟨t, it, ifs, as⟩] scope _ => decide (as = 0) && (ownOf n own).length == own.length && own.length == own.eraseDups.length && blkC n.N sc scope (ownOf n own) && (tgOk n scope tg).1 t && tg.slots.all (fun i => own.contains i) && (chk n src).i sc it &&
        (!needTup src || isTup tg) &&
        (match ifs with
          | [] => cnd.isNil
          | [c] => !cnd.isNil && (chk n cnd).e (relS scope sc) c
          | _ => false) && (chk n ky).e (relS scope sc) kx && (chk n vl).e (relS scope sc) vx && n.cold
    | _ => false
  | .dd1 k v => .ofE fun sc e => match e with
    | .Dict [some y] [z] _ => (chk n k).e sc y && (chk n v).e sc z
    | _ => false
  | .isx i c => .ofE fun sc e => match e with
    | .Call (.Name x _) [.Name y _, .Name t _] [] _ => decide (x = "isinstance") && glo sc x && n.fl.hot && decide (n.N[i]? = some y) && vis sc y && okName y && glo sc t && (match c with
      | none => decide (t = "ValueError")
      | some j => decide (n.cl j = some t))
    | _ => false
  | .lam k b => .ofE fun sc e => match e with
    | .Call (.Name x _) [.Lambda params body scope _] [] _ => decide (n.wn k = some x) && glo sc x && n.cold && n.fl.lm && decide (2 ≤ n.fl.up) && noPar params && LamX.lamSB sc scope && (chk { n with fl := f0 } b).e scope body
    | _ => false
  | .thk i => .ofE fun sc e => match e with
    | .Call (.Name x _) [] [] _ => n.fl.tc && decide (i = 0) && decide (n.N[i]? = some x)
    | _ => false
  | .nil => .ofA fun _ es => match es with
    | [] => true
    | _ => false
  | .cons a b => .ofA fun sc es => match es with
    | x :: r => (chk n a).e sc x && (chk n b).a sc r
    | [] => false

/-! ### where an expression stands -/
/-- the context of a def that was handed something to call -/
abbrev wdCx (P : Program) (w : World) (K : PySem.W.Frag) (mg : Str → Option Value) (base : Heap) (N : List Str) (qg : Str) (sg : Scope) (ga : Addr) (cd : Value) (A : Around) (outer : List Env) (s : Shared) (H : Hp) : Cx :=
  cxOf C8.CX0 P w K mg base N qg sg ga cd A outer s H C8.E0
/-- what a call of it asks: t is what it means -/
def thR (C : Cfg) (g0 : Gh) (H0 : Hp) (t : (PV → Prop) → (Exn → Prop) → Prop) (f : Addr) (i : Nat) (W : WX) : TE := fun σ H Q => σ[i]? = some (some (.ref f)) ∧ ∃ (g : Gh) (Q0 : PV → Prop) (E0 : Exn → Prop), Step C g0 H0 g H ∧
  (∀ p, Q0 p → ∀ g' H' v, Step C g H g' H' → RP C g' p v → Q v H') ∧ (∀ x, E0 x → ∀ g' H' cls d, Step C g H g' H' → RX C x cls d → W cls d σ H') ∧ t Q0 E0
/-- a def that calls what it is handed -/
structure Wd (C : Cfg) (P : Program) (w : World) (mg : Str → Option Value) (base : Heap) (k : Nat) (ga : Addr) (N : List Str) (qg : Str) (sg : Scope) (cd : Value) (a : Str) (Ψ : WSpec) : Prop where
  keep : PySem.W.keepIn C.K (.ref ga) = true
  run : ∀ (A : Around) (outer : List Env) (s : Shared) (H : Hp) (f : Addr) (t : (PV → Prop) → (Exn → Prop) → Prop) (g : Gh) (Q : VK), Room k A → A.guards = some [] → Env0 P w C.K mg base A outer s H → g.cold → W0 C g H →
    (∀ (pn : List (Addr × Obj)) (xe : Value → Shared → Prop) (W : WX) (p1 p2 : Pos), Takes ((wdCx P w C.K mg base N qg sg ga cd A outer s H).tr pn xe) W → Room (k - 1) (A.deeper (envOfC qg sg s.heap.objs.size ga cd)) →
      PE ((wdCx P w C.K mg base N qg sg ga cd A outer s H).tr pn xe) (.Call (.Name a p1) [] [] p2) (thR C g H t f 0 W)) →
    Ψ.run t (fun p => ∀ g' H' v, Step C g H g' H' → RP C g' p v → Q v H') →
    codeAny (model P w) A (.call (.ref ga) ⟨[.ref f], []⟩) (CR C8.CX0 outer P w H s Q C8.E0) s
structure Lib (n : Nms) (S : Sig) (C : Cfg) (P : Program) (w : World) (mg : Str → Option Value) (base : Heap) (k : Nat) : Prop where
  fns : ∀ j x, n.fn j = some x → ∃ f fd ps, mg x = some (.ref f) ∧ C.fa j = some f ∧ PySem.W.keepIn C.K (.ref f) = true ∧ Binds C.K fd ps [] ∧ ps.length = (S.Φ j).ar ∧ FnG P w C.K mg base k f fd ps (spOf C (S.Φ j))
  cns : ∀ c x, n.cn c = some x → ∃ u v, mg x = some u ∧ RelV v u ∧ ∀ g, RP C g (S.cn c) v
  wds : ∀ j x, n.wn j = some x → ∃ m ga N qg sg cd a, m ≤ k ∧ mg x = some (.ref ga) ∧ N[0]? = some a ∧ Vis sg a ∧ okName a = true ∧ Wd C P w mg base m ga N qg sg cd a (S.wd j)
  cls : ∀ j x, n.cl j = some x → ∃ D, mg x = some (.ref D) ∧ C.ca j = some D ∧ (∀ j' D', C.ca j' = some D' → PySem.W.kitOne C.K (.ref D') (.ref D) = some (S.sb j' j) ∧ PySem.W.exmOne C.K (.ref D') (.ref D) = some (S.sb j' j))
  exc : ∀ j D, C.ca j = some D → ExcC C.K D ∧ PySem.W.kitOne C.K (.ref D) (.type "ValueError") = some true
  blt : ∀ b, b ∈ bltNames → mg b = none
structure At (n : Nms) (S : Sig) (C : Cfg) (X : Cx) (W : WX) : Prop where
  N : X.N = n.N
  nd : n.N.Nodup
  K : X.K = C.K
  calm : n.fl.hot = false → X.calm = true
  gd : X.A.guards = some []
  tk : Takes X W
  lib : ∃ k, Lib n S C X.prog X.w X.mg X.base k ∧ (n.fl.hot = false → Room (k + n.fl.up) X.A)
  hu : X.A.units + 64 < cLine
  tcw : n.cold = true → n.fl.tc = false
  lm : n.fl.lm = true → ∃ c P, LamX.TabB X.base X.mg c P ∧ X.env.code = .ref c ∧ (P, X.env.qual ++ "<lambda>") ∈ C.Tb ∧ ∀ p, p ∈ C.Tb → p.1 = P → p.2 = X.env.qual ++ "<lambda>"

/-- what is held, what may be called -/
structure Tie (n : Nms) (S : Sig) (C : Cfg) (g0 : Gh) (H0 : Hp) (X : Cx) (W : WX) : Prop where
  cold : n.cold = true → g0.cold
  ne : n.fl.hot = false → g0.E = none
  ex : n.fl.hot = true → ∀ a c, g0.E = some (a, c) → ∃ D, C.ca c = some D ∧ CallR X (.builtin "isinstance") (rIsE X.K D a)
  th : n.fl.tc = true → ∀ f, g0.F = some f → ∀ x p1 p2, X.N[0]? = some x → PE X (.Call (.Name x p1) [] [] p2) (thR C g0 H0 S.tk f 0 W)

section
variable {n : Nms} {S : Sig} {C : Cfg} {X : Cx} {W : WX}
theorem cold_hot (h : n.cold = true) : n.fl.hot = false := by
  unfold Nms.cold at h
  simp only [Bool.and_eq_true, Bool.not_eq_true'] at h
  exact h.1
theorem At.mgb (A : At n S C X W) {b : Str} (h : b ∈ bltNames) : X.mg b = none := let ⟨_, l, _⟩ := A.lib; l.blt b h
theorem okName_db {x : Str} (h : okName x = true) : (x == ("__debug__" : Str)) = false ∧ (x == ("__classdict__" : Str)) = false ∧ x ≠ "__name__" := by
  unfold okName at h
  simp only [Bool.and_eq_true, Bool.not_eq_true', decide_eq_true_eq] at h
  exact ⟨h.1.1, h.1.2, h.2⟩
theorem vis_Vis {sc : Scope} {x : Str} (h : vis sc x = true) : Vis sc x := by
  unfold vis at h
  simp only [Bool.or_eq_true, decide_eq_true_eq] at h
  rcases h with (h | h) | h
  · exact .inl h
  · exact .inr (.inl h)
  · exact .inr (.inr h)
theorem loc_Loc {sc : Scope} {x : Str} (h : loc sc x = true) : Loc sc x := by
  unfold loc at h
  simp only [Bool.or_eq_true, decide_eq_true_eq] at h
  exact h
theorem glo_Gl {x : Str} (h : glo X.env.scope x = true) : Gl X x ∧ okName x = true := by
  unfold glo at h
  simp only [Bool.and_eq_true, decide_eq_true_eq] at h
  exact ⟨h.1, h.2⟩
theorem starEach_cons {e : Expr} {es : List Expr} {env : Env} (h : notStar e = true) : starEach (e :: es) env = (false, eval e env) :: starEach es env := by
  cases e <;> first | rfl | (simp only [notStar] at h; cases h)
theorem starEach_any {env : Env} {pos : Pos} : ∀ {es : List Expr}, es.all notStar = true → (backTo pos (starEach es env)).any (·.1) = false
  | [], _ => rfl
  | e :: es, h => by
    simp only [List.all_cons, Bool.and_eq_true] at h
    rw [starEach_cons h.1]
    have ih := starEach_any (env := env) (pos := pos) h.2
    unfold backTo at ih ⊢
    simp only [List.map_cons, List.any_cons, Bool.false_or]
    exact ih
theorem plainIx_of {b : Expr} (h : notSlice b = true) : PlainIx b := fun o i => by
  cases b <;> first | rfl | (simp only [notSlice] at h; cases h)
theorem plainT_of {e : Expr} {env : Env} (h : plainT e = true) (whole : Sem Value) : isTrue e env whole = (do let v ← whole; standAt e.pos; holding [v] (truthy v)) := by
  cases e <;> first
    | rfl
    | (rename_i op _ _; cases op <;> first | rfl | (simp only [plainT] at h; cases h))
    | (simp only [plainT] at h; cases h)
theorem nomark_of {op : CmpOp} {b : Expr} (h : notSet b = true) : behindInMarks op b = false := by
  cases b <;> first | rfl | (simp only [notSet] at h; cases h)
theorem noSetIter {e : Expr} {env : Env} (h : notSet e = true) (x : Value) : foldedSetIterable e env x = pure x := by
  cases e <;> first | rfl | (simp only [notSet] at h; cases h)
end
end Rk

set_option maxHeartbeats 4000000
namespace Rk
open PySem PySem.Spec PyProof.Rows L2

/-! ### what is walked -/
def Yls (C : Cfg) (J : It) (items : List PV) (g' : Gh) (H' : Hp) : Prop :=
  (∀ (k : Nat) x, items[k]? = some x → J.go k H' ∧ ∀ v H2, J.yld k H' v H2 → ∃ g2, Step C g' H' g2 H2 ∧ RP C g2 x v) ∧ J.stop items.length H'
def Yl (C : Cfg) (J : It) (g : Gh) (H : Hp) (items : List PV) : Prop := ∀ g' H', Step C g H g' H' → Yls C J items g' H'
def YlF (C : Cfg) (J : It) (g : Gh) (items : List PV) : Prop := ∀ g' H', Le g g' → W0 C g' H' → Yls C J items g' H'
def tI (C : Cfg) (g0 : Gh) (H0 : Hp) (W : WX) (d : Env' → (List PV → Prop) → (Exn → Prop) → Prop) : TI := fun σ H R => ∃ g ρ, Rel C g0 H0 g H ρ σ ∧ d ρ (fun items => ∀ g' H' J, Step C g H g' H' → Yl C J g' H' items → R J H') (XW C g H W σ)
def tF (C : Cfg) (g0 : Gh) (H0 : Hp) (W : WX) (d : Env' → (List PV → Prop) → (Exn → Prop) → Prop) : TI := fun σ H R => ∃ g ρ, Rel C g0 H0 g H ρ σ ∧ d ρ (fun items => ∀ g' H' J, Step C g H g' H' → YlF C J g' items → R J H') (XW C g H W σ)
def tN (C : Cfg) (g0 : Gh) (H0 : Hp) (W : WX) (d : ρE) : TE := fun σ H Q => ∃ g ρ, Rel C g0 H0 g H ρ σ ∧ d ρ (Out C g H Q) (XW C g H W σ)

section
variable {C : Cfg} {g g' g0 : Gh} {H H' H0 : Hp} {X : Cx} {W : WX}
theorem yls_lst {K : PySem.W.Frag} {a : Addr} {xs : List PV} {vs : List V} (h : SqL K H a vs) (w : W0 C g H) (r : RPs C g xs vs) : Yls C (Itl K a) xs g H := by
  refine ⟨fun k x e => ?_, vs, h, Nat.le_of_eq r.len.symm⟩
  obtain ⟨v, e2, rv⟩ := r.get e
  refine ⟨⟨vs, v, h, e2⟩, fun u H2 y => ?_⟩
  obtain ⟨rfl, y⟩ := y
  have e3 := y vs h
  rw [e2] at e3
  cases e3
  exact ⟨g, Step.refl w, rv⟩
theorem yls_tup {K : PySem.W.Frag} {a : Addr} {xs : List PV} {vs : List V} (h : SqT K H a vs) (w : W0 C g H) (r : RPs C g xs vs) : Yls C (Itt K a) xs g H := by
  refine ⟨fun k x e => ?_, vs, h, Nat.le_of_eq r.len.symm⟩
  obtain ⟨v, e2, rv⟩ := r.get e
  refine ⟨⟨vs, v, h, e2⟩, fun u H2 y => ?_⟩
  obtain ⟨rfl, y⟩ := y
  have e3 := y vs h
  rw [e2] at e3
  cases e3
  exact ⟨g, Step.refl w, rv⟩
theorem yls_keys {a : Addr} {od : Obj} {xs : List (Key × PV)} {vs : List (Key × V)} (h : H a = some (.frz od (.dK vs))) (w : W0 C g H) (r : RPk C g xs vs) : Yls C (Itk a od vs) (xs.map fun z => keyP z.1) g H := by
  refine ⟨fun k x e => ?_, h, by rw [List.length_map, r.len]; exact Nat.le_refl _⟩
  rw [List.getElem?_map] at e
  obtain ⟨z, e1, rfl⟩ := Option.map_eq_some_iff.mp e
  obtain ⟨v, e2, rv⟩ := r.get e1
  refine ⟨⟨h, (List.getElem?_eq_some_iff.mp e2).1⟩, fun u H2 y => ?_⟩
  obtain ⟨rfl, k2, v2, e3, rfl⟩ := y
  rw [e2] at e3
  cases e3
  exact ⟨g, Step.refl w, keyP_r _⟩
theorem yls_vals {a : Addr} {od : Obj} {xs : List (Key × PV)} {vs : List (Key × V)} (h : H a = some (.frz od (.dK vs))) (w : W0 C g H) (r : RPk C g xs vs) : Yls C (Itd a od vs) (xs.map (·.2)) g H := by
  refine ⟨fun k x e => ?_, h, by rw [List.length_map, r.len]; exact Nat.le_refl _⟩
  rw [List.getElem?_map] at e
  obtain ⟨z, e1, rfl⟩ := Option.map_eq_some_iff.mp e
  obtain ⟨v, e2, rv⟩ := r.get e1
  refine ⟨⟨h, (List.getElem?_eq_some_iff.mp e2).1⟩, fun u H2 y => ?_⟩
  obtain ⟨rfl, k2, e3⟩ := y
  rw [e2] at e3
  cases e3
  exact ⟨g, Step.refl w, rv⟩
theorem yls_rng {lo : Int} {n : Nat} (w : W0 C g H) : Yls C (Itr lo n) (rngL lo n) g H := by
  refine ⟨fun k x e => ?_, ?_⟩
  · unfold rngL at e
    rw [List.getElem?_map] at e
    cases q : (List.range n)[k]? with
    | none => rw [q] at e; cases e
    | some j =>
      rw [q] at e
      obtain ⟨h1, h2⟩ := List.getElem?_eq_some_iff.mp q
      simp at h1 h2
      subst h2
      cases e
      refine ⟨h1, fun v H2 y => ?_⟩
      obtain ⟨rfl, rfl⟩ := y
      exact ⟨g, Step.refl w, rfl⟩
  · show n ≤ (rngL lo n).length
    unfold rngL
    simp
theorem zipL_get : ∀ {xs ys : List PV} {k : Nat} {x : PV}, (zipL xs ys)[k]? = some x → ∃ p q, xs[k]? = some p ∧ ys[k]? = some q ∧ x = .tup [p, q]
  | [], _, _, _, e => by simp [zipL] at e
  | _ :: _, [], _, _, e => by simp [zipL] at e
  | p :: xs, q :: ys, 0, x, e => by
    simp [zipL] at e
    exact ⟨p, q, by simp, by simp, e.symm⟩
  | p :: xs, q :: ys, k + 1, x, e => by
    simp only [zipL, List.getElem?_cons_succ] at e ⊢
    exact zipL_get e
theorem zipL_len : ∀ {xs ys : List PV}, (zipL xs ys).length = min xs.length ys.length
  | [], _ => by simp [zipL]
  | _ :: _, [] => by simp [zipL]
  | p :: xs, q :: ys => by
    simp only [zipL, List.length_cons]
    rw [zipL_len]
    omega
theorem enumL_get : ∀ {xs : List PV} {m k : Nat} {x : PV}, (enumL m xs)[k]? = some x → ∃ p, xs[k]? = some p ∧ x = .tup [.int ((m + k : Nat) : Int), p]
  | [], _, _, _, e => by simp [enumL] at e
  | p :: xs, m, 0, x, e => by
    simp [enumL] at e
    exact ⟨p, by simp, by simpa using e.symm⟩
  | p :: xs, m, k + 1, x, e => by
    simp only [enumL, List.getElem?_cons_succ] at e ⊢
    obtain ⟨q, e1, e2⟩ := enumL_get e
    exact ⟨q, e1, by rw [e2]; congr 4; omega⟩
theorem enumL_len : ∀ {xs : List PV} {m : Nat}, (enumL m xs).length = xs.length
  | [], _ => rfl
  | p :: xs, m => by simp only [enumL, List.length_cons]; rw [enumL_len]
theorem yls_pair {T : Addr} {p q : PV} {x y : V} (w : W0 C g H) (n : H T = none) (r1 : RP C g p x) (r2 : RP C g q y) : ∃ g2, Step C g H g2 (upd H T (.tup [x, y])) ∧ RP C g2 (.tup [p, q]) (.ref T) := by
  have s := Step.layF (o := .tup [x, y]) w n (fun ps z => (by cases z))
  exact ⟨_, s, T, _, rfl, .inl (.inl upd_same), RPs.cons (RP.up s.le _ _ r1) (RPs.cons (RP.up s.le _ _ r2) RPs.nil)⟩
theorem yls_items {a : Addr} {od : Obj} {xs : List (Key × PV)} {vs : List (Key × V)} (h : H a = some (.frz od (.dK vs))) (w : W0 C g H) (r : RPk C g xs vs) : Yls C (Iti a od vs) (xs.map fun z => .tup [keyP z.1, z.2]) g H := by
  refine ⟨fun k x e => ?_, h, by rw [List.length_map, r.len]; exact Nat.le_refl _⟩
  rw [List.getElem?_map] at e
  obtain ⟨z, e1, rfl⟩ := Option.map_eq_some_iff.mp e
  obtain ⟨v, e2, rv⟩ := r.get e1
  refine ⟨⟨h, (List.getElem?_eq_some_iff.mp e2).1⟩, fun u H2 y => ?_⟩
  obtain ⟨T, k2, v2, e3, rfl, n, rfl⟩ := y
  rw [e2] at e3
  cases e3
  exact yls_pair w n (keyP_r _) rv
theorem yls_zip {K : PySem.W.Frag} {a b : Addr} {xs ys : List PV} {vs us : List V} (h1 : SqL K H a vs) (h2 : SqL K H b us) (w : W0 C g H) (r1 : RPs C g xs vs) (r2 : RPs C g ys us) : Yls C (Itz K a b) (zipL xs ys) g H := by
  refine ⟨fun k x e => ?_, vs, us, h1, h2, ?_⟩
  · obtain ⟨p, q, e1, e2, rfl⟩ := zipL_get e
    obtain ⟨v, e3, rv⟩ := r1.get e1
    obtain ⟨u, e4, ru⟩ := r2.get e2
    refine ⟨⟨vs, us, v, u, h1, h2, e3, e4⟩, fun z H2 y => ?_⟩
    obtain ⟨T, x, y, rfl, n, rfl, y1, y2⟩ := y
    have e5 := y1 vs h1
    have e6 := y2 us h2
    rw [e3] at e5
    rw [e4] at e6
    cases e5
    cases e6
    exact yls_pair w n rv ru
  · rw [zipL_len, r1.len, r2.len]
    omega
theorem yls_zipT {K : PySem.W.Frag} {a b : Addr} {xs ys : List PV} {vs us : List V} (h1 : SqT K H a vs) (h2 : SqT K H b us) (w : W0 C g H) (r1 : RPs C g xs vs) (r2 : RPs C g ys us) : Yls C (RZ.ItzT K a b) (zipL xs ys) g H := by
  refine ⟨fun k x e => ?_, vs, us, h1, h2, ?_⟩
  · obtain ⟨p, q, e1, e2, rfl⟩ := zipL_get e
    obtain ⟨v, e3, rv⟩ := r1.get e1
    obtain ⟨u, e4, ru⟩ := r2.get e2
    refine ⟨⟨vs, us, v, u, h1, h2, e3, e4⟩, fun z H2 y => ?_⟩
    obtain ⟨T, x, y, rfl, n, rfl, y1, y2⟩ := y
    have e5 := y1 vs h1
    have e6 := y2 us h2
    rw [e3] at e5
    rw [e4] at e6
    cases e5
    cases e6
    exact yls_pair w n rv ru
  · rw [zipL_len, r1.len, r2.len]
    omega
theorem yls_enum {K : PySem.W.Frag} {a : Addr} {xs : List PV} {vs : List V} (h1 : SqL K H a vs) (w : W0 C g H) (r1 : RPs C g xs vs) : Yls C (Ite K a) (enumL 0 xs) g H := by
  refine ⟨fun k x e => ?_, vs, h1, ?_⟩
  · obtain ⟨p, e1, rfl⟩ := enumL_get e
    obtain ⟨v, e3, rv⟩ := r1.get e1
    refine ⟨⟨vs, v, h1, e3⟩, fun z H2 y => ?_⟩
    obtain ⟨T, x, rfl, n, rfl, y1⟩ := y
    have e5 := y1 vs h1
    rw [e3] at e5
    cases e5
    have q := yls_pair (p := .int ((0 + k : Nat) : Int)) (x := .int (k : Nat)) w n (by show V.int _ = V.int _; rw [Nat.zero_add]) rv
    exact q
  · rw [enumL_len, r1.len]
    exact Nat.le_refl _

/-- a list or a tuple, walked -/
def iSeq (K : PySem.W.Frag) (tl : TE) : TI := fun σ H R => tl σ H fun x H1 => ∃ a, x = .ref a ∧ (((∃ xs, SqL K H1 a xs) ∧ R (Itl K a) H1) ∨ ((∃ xs, SqT K H1 a xs) ∧ R (Itt K a) H1) ∨ ∃ o kvs, H1 a = some (.frz o (.dK kvs)) ∧ R (Itk a o kvs) H1)
theorem pi_seq {tg l : Expr} {tl : TE} (hl : PE X l tl) : PI X tg l (iSeq X.K tl) := by
  refine ⟨fun pins s σ H R I h => thn (hl.run pins s σ H _ I h) fun v s1 ⟨x, H1, I1, r1, a, ex, q⟩ => ?_⟩
  subst ex
  obtain rfl : v = Value.ref a := r1
  have fin : ∀ (tn : Nat → Heap → Prop) (J : It) (o : Obj), Turn X.prog X.w X.K tg J [s1.heap.objs.size] s1.heap.objs.size tn → tn 0 (s1.heap.push o) → R J H1 →
      PIE X pins σ tg R (.ref s1.heap.objs.size) { s1 with heap := s1.heap.push o } := fun tn J o t t0 q => by
    refine ⟨s1.heap.objs.size, [s1.heap.objs.size], tn, J, H1, rfl, I1.kept (t' := s1.toks) (fun b u z => Heap.get?_push_of_some _ z), t, t0, fun b hb => ?_, q⟩
    obtain rfl : b = s1.heap.objs.size := by simpa using hb
    exact I1.fpOk (Nat.le_refl _) (I1.hok.fresh (Nat.le_refl _))
  rcases q with ⟨⟨xs, hq⟩, q⟩ | ⟨⟨xs, hq⟩, q⟩ | ⟨o, kvs, hd, q⟩
  · obtain ⟨its, rv, p, hz⟩ := I1.list hq
    exact wpAny_pyIter_list p.isList (fin _ _ _ (turn_list a _) ⟨_, Heap.get?_push_size _ rfl, rfl, rfl⟩ q)
  · obtain ⟨its, rv, p, hz⟩ := I1.tuple hq
    exact wpAny_pyIter_tuple (show s1.heap.IsTuple a its.toArray from p) (fin _ _ _ (turn_tuple a _) ⟨_, Heap.get?_push_size _ rfl, rfl, rfl⟩ q)
  · obtain ⟨hs, hgd, hx, es, ep, vs, hdt, hsz, kv, hm⟩ := I1.frzK hd
    refine iter_keys hs hgd hx hdt (fin _ _ _ (turn_keys _ hdt) ⟨_, Heap.get?_push_size _ rfl, rfl, ?_⟩ q)
    rw [hsz] <;> rfl
end
end Rk

set_option maxHeartbeats 4000000
namespace Rk
open PySem PySem.Spec PyProof.Rows L2

def isBool : Expr → Bool
  | .BoolOp _ _ _ => true
  | _ => false
def isTupE : Expr → Bool
  | .Tuple _ _ _ => true
  | _ => false
def tPt (C : Cfg) (g0 : Gh) (H0 : Hp) (W : WX) (d : Env' → (List PV → Prop) → (Exn → Prop) → Prop) : TO := fun σ H Q => ∃ g ρ, Rel C g0 H0 g H ρ σ ∧ d ρ (fun l => partW l fun i => ∀ g' H', Step C g H g' H' → Q i H') (XW C g H W σ)
structure Snd (n : Nms) (S : Sig) (C : Cfg) (g0 : Gh) (H0 : Hp) (X : Cx) (W : WX) (x : Ex) : Prop where
  e : ∀ e, (chk n x).e X.env.scope e = true → PE X e (tE C g0 H0 W (den S x).e)
  o : ∀ e, (chk n x).e X.env.scope e = true → PE X e (tO C g0 H0 W (den S x).o)
  t : ∀ e, (chk n x).e X.env.scope e = true → PT X e (tT C g0 H0 W (den S x).t)
  w : ∀ e, (chk n x).e X.env.scope e = true → isBool e = true → PW X e (tT C g0 H0 W (den S x).t)
  s : ∀ m e, (chk n x).e X.env.scope e = true → PE X e (tS C g0 H0 W ((den S x).s m))
  st : ∀ e, (chk n x).e X.env.scope e = true → notStar e = true ∧ notSet e = true ∧ notSlice e = true
  a : ∀ es, (chk n x).a X.env.scope es = true → es.all notStar = true ∧ PA X es (tA C g0 H0 W (den S x).a)
  b : ∀ es, (chk n x).a X.env.scope es = true → PA X es (tB C g0 H0 W (den S x).b)
  i : ∀ e tg, (chk n x).i X.env.scope e = true → (needTup x = true → isTupE tg = true) → PI X tg e (tI C g0 H0 W (den S x).i)
  f : ∀ e tg, (chk n x).i X.env.scope e = true → (needTup x = true → isTupE tg = true) → PI X tg e (tF C g0 H0 W (den S x).f)
  si : ∀ e, (chk n x).i X.env.scope e = true → notSet e = true
  p : ∀ l : Option Expr, (chk n x).a X.env.scope (optL l) = true → PO X l (tPt C g0 H0 W (den S x).a)

section
variable {n : Nms} {S : Sig} {C : Cfg} {g0 g g' : Gh} {H0 H H' : Hp} {X : Cx} {W : WX} {ρ : Env'} {σ : L2.St}

theorem tEO {d : ρE} (m : MonoE d) {e : Expr} (h : PE X e (tE C g0 H0 W d)) : PE X e (tO C g0 H0 W d) := pe_weak h fun σ H Q q => by
  obtain ⟨g, ρ, r, q⟩ := q
  exact ⟨g, ρ, r, m _ _ _ _ _ (fun p hp g' H' v s rp => hp g' H' v s (.inl rp)) (fun _ z => z) q⟩
theorem tES {d : ρE} (m : MonoE d) {e : Expr} (h : PE X e (tE C g0 H0 W d)) : PE X e (tS C g0 H0 W (fun ρ Q E => d ρ (fun p => Q (.fz p)) E)) := pe_weak h fun σ H Q q => by
  obtain ⟨g, ρ, r, q⟩ := q
  exact ⟨g, ρ, r, m _ _ _ _ _ (fun p hp g' H' v s rp => hp g' H' v s rp) (fun _ z => z) q⟩
theorem pe_false {e : Expr} {t : TE} (h : PE X e t) : PE X e (fun _ _ _ => False) := pe_weak h fun _ _ _ z => z.elim
theorem tET (A : At n S C X W) {d : ρE} (m : MonoE d) {e : Expr} (hp : plainT e = true) (h : PE X e (tE C g0 H0 W d)) : PT X e (tT C g0 H0 W (fun ρ Q E => d ρ (fun p => truthW p Q) E)) :=
  pt_weak (pt_truth h (plainT_of hp)) fun σ H Q q => by
    obtain ⟨g, ρ, r, q⟩ := q
    refine ⟨g, ρ, r, m _ _ _ _ _ (fun p hp g' H' v s rp => ?_) (fun _ z => z) q⟩
    obtain ⟨k, h1, h2⟩ := tru_of s.w A.K (.inl rp) hp
    exact ⟨k, h1, h2 g' H' s⟩
theorem tEI (A : At n S C X W) {d : ρE} (m : MonoE d) {e : Expr} (h : PE X e (tE C g0 H0 W d)) (tg : Expr) : PI X tg e (tI C g0 H0 W (fun ρ Q E => d ρ (fun p => itemsW p Q) E)) :=
  pi_weak (pi_seq h) fun σ H R q => by
    obtain ⟨g, ρ, r, q⟩ := q
    refine ⟨g, ρ, r, m _ _ _ _ _ (fun p hp g' H' v s rp => ?_) (fun _ z => z) q⟩
    cases p <;> simp only [itemsW] at hp
    · obtain ⟨a, vs, rfl, h1, h2⟩ := rp
      have h3 := sqt_up s.w.sub h1
      rw [← A.K] at h3
      exact ⟨a, rfl, .inr (.inl ⟨⟨vs, h3⟩, hp g' H' _ s fun g2 H2 t => yls_tup (by rw [A.K]; exact sqt_up (fun b o z => t.w.sub b o (t.le.G b o z)) h1) t.w (RPs.up t.le _ _ h2)⟩)⟩
    · obtain ⟨a, vs, rfl, h1, h2⟩ := rp
      exact ⟨a, rfl, .inl ⟨⟨vs, SqL.of (s.w.sub _ _ h1)⟩, hp g' H' _ s fun g2 H2 t => yls_lst (SqL.of (t.w.sub _ _ (t.le.G _ _ h1))) t.w (RPs.up t.le _ _ h2)⟩⟩
    · obtain ⟨a, vs, od, rfl, h1, h2⟩ := rp
      exact ⟨a, rfl, .inr (.inr ⟨od, vs, s.w.sub _ _ h1, hp g' H' _ s fun g2 H2 t => yls_keys (t.w.sub _ _ (t.le.G _ _ h1)) t.w (RPk.up t.le _ _ h2)⟩)⟩
theorem tEF (A : At n S C X W) {d : ρE} (m : MonoE d) {e : Expr} (h : PE X e (tE C g0 H0 W d)) (tg : Expr) : PI X tg e (tF C g0 H0 W (fun ρ Q E => d ρ (fun p => itemsW p Q) E)) :=
  pi_weak (pi_seq h) fun σ H R q => by
    obtain ⟨g, ρ, r, q⟩ := q
    refine ⟨g, ρ, r, m _ _ _ _ _ (fun p hp g' H' v s rp => ?_) (fun _ z => z) q⟩
    cases p <;> simp only [itemsW] at hp
    · obtain ⟨a, vs, rfl, h1, h2⟩ := rp
      have h3 := sqt_up s.w.sub h1
      rw [← A.K] at h3
      exact ⟨a, rfl, .inr (.inl ⟨⟨vs, h3⟩, hp g' H' _ s fun g2 H2 l w => yls_tup (by rw [A.K]; exact sqt_up (fun b o z => w.sub b o (l.G b o z)) h1) w (RPs.up l _ _ h2)⟩)⟩
    · obtain ⟨a, vs, rfl, h1, h2⟩ := rp
      exact ⟨a, rfl, .inl ⟨⟨vs, SqL.of (s.w.sub _ _ h1)⟩, hp g' H' _ s fun g2 H2 l w => yls_lst (SqL.of (w.sub _ _ (l.G _ _ h1))) w (RPs.up l _ _ h2)⟩⟩
    · obtain ⟨a, vs, od, rfl, h1, h2⟩ := rp
      exact ⟨a, rfl, .inr (.inr ⟨od, vs, s.w.sub _ _ h1, hp g' H' _ s fun g2 H2 l w => yls_keys (w.sub _ _ (l.G _ _ h1)) w (RPk.up l _ _ h2)⟩)⟩
theorem chk_ofE {f : Scope → Expr → Bool} {sc : Scope} {e : Expr} (h : (Chk.ofE f).e sc e = true) : notStar e = true ∧ notSet e = true ∧ notSlice e = true ∧ f sc e = true := by
  simp only [Chk.ofE, Bool.and_eq_true] at h
  exact ⟨h.1.1.1, h.1.1.2, h.1.2, h.2⟩
theorem notBool_of {e : Expr} (h : plainT e = true) : isBool e = false := by
  cases e <;> first | rfl | (simp only [plainT] at h; cases h)

theorem Snd.ofE {x : Ex} {d : ρE} {f : Scope → Expr → Bool} (A : At n S C X W) (hd : den S x = Den.ofE d) (hf : chk n x = Chk.ofE f) (m : MonoE d) (hz : needTup x = false)
    (h : ∀ e, f X.env.scope e = true → PE X e (tE C g0 H0 W d) ∧ plainT e = true) : Snd n S C g0 H0 X W x where
  e := fun e q => by
    rw [hf] at q
    rw [hd]
    exact (h e (chk_ofE q).2.2.2).1
  o := fun e q => by
    rw [hf] at q
    rw [hd]
    exact tEO m (h e (chk_ofE q).2.2.2).1
  t := fun e q => by
    rw [hf] at q
    rw [hd]
    exact tET A m (h e (chk_ofE q).2.2.2).2 (h e (chk_ofE q).2.2.2).1
  w := fun e q z => by
    rw [hf] at q
    rw [notBool_of (h e (chk_ofE q).2.2.2).2] at z
    cases z
  s := fun b e q => by
    rw [hf] at q
    rw [hd]
    have h1 := (h e (chk_ofE q).2.2.2).1
    cases b with
    | false => exact tES m h1
    | true => exact pe_weak (pe_false h1) fun σ H Q ⟨g, ρ, r, z⟩ => z
  st := fun e q => by
    rw [hf] at q
    exact ⟨(chk_ofE q).1, (chk_ofE q).2.1, (chk_ofE q).2.2.1⟩
  a := fun es q => by
    rw [hf] at q
    cases q
  b := fun es q => by
    rw [hf] at q
    cases q
  i := fun e tg q _ => by
    rw [hf] at q
    rw [hd]
    exact tEI A m (h e (chk_ofE q).2.2.2).1 tg
  f := fun e tg q _ => by
    rw [hf] at q
    rw [hd]
    exact tEF A m (h e (chk_ofE q).2.2.2).1 tg
  si := fun e q => by
    rw [hf] at q
    exact (chk_ofE q).2.1
  p := fun l q => by
    rw [hf] at q
    cases q

theorem tNE {d : ρE} (m : MonoE d) {e : Expr} (h : PE X e (tN C g0 H0 W d)) : PE X e (tE C g0 H0 W d) := pe_weak (pe_lock2 h) fun σ H Q q => by
  obtain ⟨g, ρ, r, q⟩ := q
  refine ⟨g, ρ, r, m _ _ _ _ _ (fun p hp g' H' v s rn => ?_) (fun _ z => z) q⟩
  have other : (∀ xs, p ≠ .dct xs) → Q v H' := fun nd => by
    obtain ⟨g2, s2, rp⟩ := rn.val s nd
    exact hp g2 H' v s2 rp
  cases p with
  | dct xs =>
    obtain ⟨a, vs, e1, e2, e3⟩ := RN.lock s rn
    refine .inr ⟨a, .dK vs, e2, trivial, fun od => ?_⟩
    obtain ⟨g2, s2, rp⟩ := e3 od
    exact hp g2 _ v s2 rp
  | _ => exact .inl (other fun _ z => (by cases z))
theorem tNS {d : ρE} (m : MonoE d) {e : Expr} (h : PE X e (tN C g0 H0 W d)) : PE X e (tS C g0 H0 W (fun ρ Q E => d ρ (fun p => asOwn true p Q) E)) := pe_weak h fun σ H Q q => by
  obtain ⟨g, ρ, r, q⟩ := q
  refine ⟨g, ρ, r, m _ _ _ _ _ (fun p hp g' H' v s rn => ?_) (fun _ z => z) q⟩
  cases p <;> simp only [asOwn] at hp <;> exact hp g' H' v s rn
theorem Snd.ofN' {x : Ex} {d : ρE} {f : Scope → Expr → Bool} (A : At n S C X W) (hd : den S x = Den.ofN d) (hf : chk n x = Chk.ofE f) (m : MonoE d) (hz : needTup x = false)
    (h : ∀ e, (chk n x).e X.env.scope e = true → PE X e (tN C g0 H0 W d) ∧ plainT e = true) : Snd n S C g0 H0 X W x where
  e := fun e q => by
    have q0 := q
    rw [hf] at q
    rw [hd]
    exact tNE m (h e q0).1
  o := fun e q => by
    have q0 := q
    rw [hf] at q
    rw [hd]
    exact tEO m (tNE m (h e q0).1)
  t := fun e q => by
    have q0 := q
    rw [hf] at q
    rw [hd]
    exact tET A m (h e q0).2 (tNE m (h e q0).1)
  w := fun e q z => by
    have q0 := q
    rw [hf] at q
    rw [notBool_of (h e q0).2] at z
    cases z
  s := fun b e q => by
    have q0 := q
    rw [hf] at q
    rw [hd]
    have h1 := (h e q0).1
    cases b with
    | false => exact tES m (tNE m h1)
    | true => exact tNS m h1
  st := fun e q => by
    rw [hf] at q
    exact ⟨(chk_ofE q).1, (chk_ofE q).2.1, (chk_ofE q).2.2.1⟩
  a := fun es q => by
    rw [hf] at q
    cases q
  b := fun es q => by
    rw [hf] at q
    cases q
  i := fun e tg q _ => by
    have q0 : (chk n x).e X.env.scope e = true := by
      rw [hf] at q ⊢
      exact q
    rw [hd]
    exact tEI A m (tNE m (h e q0).1) tg
  f := fun e tg q _ => by
    have q0 : (chk n x).e X.env.scope e = true := by
      rw [hf] at q ⊢
      exact q
    rw [hd]
    exact tEF A m (tNE m (h e q0).1) tg
  si := fun e q => by
    rw [hf] at q
    exact (chk_ofE q).2.1
  p := fun l q => by
    rw [hf] at q
    cases q
theorem Snd.ofN {x : Ex} {d : ρE} {f : Scope → Expr → Bool} (A : At n S C X W) (hd : den S x = Den.ofN d) (hf : chk n x = Chk.ofE f) (m : MonoE d) (hz : needTup x = false)
    (h : ∀ e, f X.env.scope e = true → PE X e (tN C g0 H0 W d) ∧ plainT e = true) : Snd n S C g0 H0 X W x :=
  Snd.ofN' A hd hf m hz fun e q => h e (by rw [hf] at q; exact (chk_ofE q).2.2.2)
theorem Snd.ofT {x : Ex} {d : ρE} {t : Env' → (Bool → Prop) → (Exn → Prop) → Prop} {f : Scope → Expr → Bool} (A : At n S C X W) (hd : den S x = Den.ofT t d) (hf : chk n x = Chk.ofE f) (m : MonoE d) (hz : needTup x = false)
    (h : ∀ e, f X.env.scope e = true → PE X e (tE C g0 H0 W d)) (ht : ∀ e, f X.env.scope e = true → PT X e (tT C g0 H0 W t)) (hw : ∀ e, f X.env.scope e = true → isBool e = true → PW X e (tT C g0 H0 W t)) : Snd n S C g0 H0 X W x where
  e := fun e q => by
    rw [hf] at q
    rw [hd]
    exact h e (chk_ofE q).2.2.2
  o := fun e q => by
    rw [hf] at q
    rw [hd]
    exact tEO m (h e (chk_ofE q).2.2.2)
  t := fun e q => by
    rw [hf] at q
    rw [hd]
    exact ht e (chk_ofE q).2.2.2
  w := fun e q z => by
    rw [hf] at q
    rw [hd]
    exact hw e (chk_ofE q).2.2.2 z
  s := fun b e q => by
    rw [hf] at q
    rw [hd]
    have h1 := h e (chk_ofE q).2.2.2
    cases b with
    | false => exact tES m h1
    | true => exact pe_weak (pe_false h1) fun σ H Q ⟨g, ρ, r, z⟩ => z
  st := fun e q => by
    rw [hf] at q
    exact ⟨(chk_ofE q).1, (chk_ofE q).2.1, (chk_ofE q).2.2.1⟩
  a := fun es q => by
    rw [hf] at q
    cases q
  b := fun es q => by
    rw [hf] at q
    cases q
  i := fun e tg q _ => by
    rw [hf] at q
    rw [hd]
    exact tEI A m (h e (chk_ofE q).2.2.2) tg
  f := fun e tg q _ => by
    rw [hf] at q
    rw [hd]
    exact tEF A m (h e (chk_ofE q).2.2.2) tg
  si := fun e q => by
    rw [hf] at q
    exact (chk_ofE q).2.1
  p := fun l q => by
    rw [hf] at q
    cases q
theorem Snd.ofA {x : Ex} {a b : Env' → (List PV → Prop) → (Exn → Prop) → Prop} {f : Scope → List Expr → Bool} (hd : den S x = Den.ofA a b) (hf : chk n x = Chk.ofA f)
    (h : ∀ es, f X.env.scope es = true → es.all notStar = true ∧ PA X es (tA C g0 H0 W a)) (hb : ∀ es, f X.env.scope es = true → PA X es (tB C g0 H0 W b))
    (hp : ∀ l, f X.env.scope (optL l) = true → PO X l (tPt C g0 H0 W a)) : Snd n S C g0 H0 X W x where
  e := fun e q => by
    rw [hf] at q
    cases q
  o := fun e q => by
    rw [hf] at q
    cases q
  t := fun e q => by
    rw [hf] at q
    cases q
  w := fun e q z => by
    rw [hf] at q
    cases q
  s := fun b e q => by
    rw [hf] at q
    cases q
  st := fun e q => by
    rw [hf] at q
    cases q
  a := fun es q => by
    rw [hf] at q
    rw [hd]
    exact h es q
  b := fun es q => by
    rw [hf] at q
    rw [hd]
    exact hb es q
  i := fun e tg q _ => by
    rw [hf] at q
    cases q
  f := fun e tg q _ => by
    rw [hf] at q
    cases q
  si := fun e q => by
    rw [hf] at q
    cases q
  p := fun l q => by
    rw [hf] at q
    rw [hd]
    exact hp l q
theorem Snd.ofI {x : Ex} {i j : Env' → (List PV → Prop) → (Exn → Prop) → Prop} {f : Scope → Expr → Bool} (hd : den S x = Den.ofI i j) (hf : chk n x = Chk.ofI f)
    (h : ∀ e tg, f X.env.scope e = true → (needTup x = true → isTupE tg = true) → PI X tg e (tI C g0 H0 W i)) (hb : ∀ e tg, f X.env.scope e = true → (needTup x = true → isTupE tg = true) → PI X tg e (tF C g0 H0 W j)) : Snd n S C g0 H0 X W x where
  e := fun e q => by
    rw [hf] at q
    cases q
  o := fun e q => by
    rw [hf] at q
    cases q
  t := fun e q => by
    rw [hf] at q
    cases q
  w := fun e q z => by
    rw [hf] at q
    cases q
  s := fun b e q => by
    rw [hf] at q
    cases q
  st := fun e q => by
    rw [hf] at q
    cases q
  a := fun es q => by
    rw [hf] at q
    cases q
  b := fun es q => by
    rw [hf] at q
    cases q
  i := fun e tg q z => by
    rw [hf] at q
    rw [hd]
    simp only [Chk.ofI, Bool.and_eq_true] at q
    exact h e tg q.2 z
  f := fun e tg q z => by
    rw [hf] at q
    rw [hd]
    simp only [Chk.ofI, Bool.and_eq_true] at q
    exact hb e tg q.2 z
  si := fun e q => by
    rw [hf] at q
    simp only [Chk.ofI, Bool.and_eq_true] at q
    exact q.1
  p := fun l q => by
    rw [hf] at q
    cases q
end
end Rk

set_option maxHeartbeats 4000000
namespace Rk
open PySem PySem.Spec PyProof.Rows L2
section
variable {n : Nms} {S : Sig} {C : Cfg} {g0 g g' : Gh} {H0 H H' : Hp} {X : Cx} {W : WX} {ρ : Env'} {σ : L2.St} {a b c as : Ex}

theorem varW_at {s : Option Slot} {Q : PV → Prop} (h : varW s Q) : ∃ p, s = some (.fz p) ∧ Q p := by
  rcases s with _ | s
  · exact h.elim
  · cases s <;> simp only [varW] at h
    exact ⟨_, rfl, h⟩
theorem snd_var (A : At n S C X W) (i : Nat) : Snd n S C g0 H0 X W (.var i) :=
  Snd.ofE A rfl rfl (fun ρ Q Q' E E' hq he h => (den_mono S (.var i)).e hq he h) rfl fun e q => by
    split at q
    · rename_i x pos
      simp only [Bool.and_eq_true, decide_eq_true_eq] at q
      obtain ⟨⟨q1, q2⟩, q3⟩ := q
      obtain ⟨d1, d2, _⟩ := okName_db q3
      refine ⟨pe_weak (pe_var (i := i) (by rw [A.N]; exact q1) (vis_Vis q2) d1 d2) fun σ H Q h => ?_, rfl⟩
      obtain ⟨g, ρ, r, h⟩ := h
      obtain ⟨p, e, h⟩ := varW_at h
      obtain ⟨v, e2, rv⟩ := r.var e
      exact ⟨v, e2, h g H v (Step.refl r.w) rv⟩
    · cases q
theorem ownW_at {s : Option Slot} {Q : PV → Prop} (h : ownW s Q) : (∃ xs, s = some (.ol xs) ∧ Q (.lst xs)) ∨ ∃ xs, s = some (.od xs) ∧ Q (.dct xs) := by
  rcases s with _ | s
  · exact h.elim
  · cases s <;> simp only [ownW] at h
    · exact .inl ⟨_, rfl, h⟩
    · exact .inr ⟨_, rfl, h⟩
theorem own_rp (r : Rel C g0 H0 g H ρ σ) {i : Nat} {Q : PV → Prop} (h : ownW ρ[i]? Q) : ∃ v p, σ[i]? = some (some v) ∧ RPo C g H p v ∧ Q p := by
  rcases ownW_at h with ⟨xs, e, h⟩ | ⟨xs, e, h⟩
  · obtain ⟨a, vs, e1, h1, h2, h3, h4, h5⟩ := r.at_ i _ e
    exact ⟨_, _, e1, .inr (.inl ⟨a, vs, xs, rfl, rfl, h1, h2, h5⟩), h⟩
  · obtain ⟨a, vs, e1, h1, h2, h3, h4, h5⟩ := r.at_ i _ e
    exact ⟨_, _, e1, .inr (.inr ⟨a, vs, xs, rfl, rfl, h1, h2, h5⟩), h⟩
theorem snd_own (A : At n S C X W) (i : Nat) : Snd n S C g0 H0 X W (.own i) := by
  have ho : ∀ e, (chk n (.own i)).e X.env.scope e = true → PE X e (tO C g0 H0 W (den S (.own i)).o) ∧ plainT e = true := fun e q => by
    have q := (chk_ofE q).2.2.2
    split at q
    · rename_i x pos
      simp only [Bool.and_eq_true, decide_eq_true_eq] at q
      obtain ⟨⟨q1, q2⟩, q3⟩ := q
      obtain ⟨d1, d2, _⟩ := okName_db q3
      refine ⟨pe_weak (pe_var (i := i) (by rw [A.N]; exact q1) (vis_Vis q2) d1 d2) fun σ H Q h => ?_, rfl⟩
      obtain ⟨g, ρ, r, h⟩ := h
      have h : ownW ρ[i]? (fun p => ∀ (g' : Gh) (H' : Hp) (v : V), Step C g H g' H' → RPo C g' H' p v → Q v H') := h
      obtain ⟨v, p, e2, rv, h⟩ := own_rp r h
      exact ⟨v, e2, h g H v (Step.refl r.w) rv⟩
    · cases q
  refine ⟨fun e q => pe_weak (pe_false (ho e q).1) fun σ H Q ⟨_, _, _, z⟩ => z, fun e q => (ho e q).1, fun e q => ?_, fun e q z => ?_, fun m e q => pe_weak (pe_false (ho e q).1) fun σ H Q ⟨_, _, _, z⟩ => z, fun e q => ⟨(chk_ofE q).1, (chk_ofE q).2.1, (chk_ofE q).2.2.1⟩, fun es q => (by cases q), fun es q => (by cases q), fun e tg q z => ?_, fun e tg q z => ?_, fun e q => (chk_ofE (show (chk n (.own i)).e X.env.scope e = true from q)).2.1, fun l q => (by cases q)⟩
  · refine pt_weak (pt_truth (ho e q).1 (plainT_of (ho e q).2)) fun σ H Q h => ?_
    obtain ⟨g, ρ, r, h⟩ := h
    have h : ownW ρ[i]? (fun p => truthW p fun k => ∀ (g' : Gh) (H' : Hp), Step C g H g' H' → Q k H') := h
    refine ⟨g, ρ, r, ?_⟩
    simp only [den]
    refine ownW_mono (fun p hp => ?_) h
    intro g' H' v s rp
    obtain ⟨k, h1, h2⟩ := tru_of s.w A.K rp hp
    exact ⟨k, h1, h2 g' H' s⟩
  · rw [notBool_of (ho e q).2] at z
    cases z
  · refine pi_weak (pi_seq (ho e q).1) fun σ H R h => ?_
    obtain ⟨g, ρ, r, h⟩ := h
    have h : ownW ρ[i]? (fun p => itemsLW p fun items => ∀ (g' : Gh) (H' : Hp) (J : It), Step C g H g' H' → Yl C J g' H' items → R J H') := h
    refine ⟨g, ρ, r, ?_⟩
    simp only [den]
    refine ownW_mono (fun p hp => ?_) h
    intro g' H' v s rp
    cases p <;> simp only [itemsLW] at hp
    · have rp := rp.tupR
      obtain ⟨a, vs, rfl, h1, h2⟩ := rp
      have h3 := sqt_up s.w.sub h1
      rw [← A.K] at h3
      exact ⟨a, rfl, .inr (.inl ⟨⟨vs, h3⟩, hp g' H' _ s fun g2 H2 t => yls_tup (by rw [A.K]; exact sqt_up (fun b o z => t.w.sub b o (t.le.G b o z)) h1) t.w (RPs.up t.le _ _ h2)⟩)⟩
    · obtain ⟨a, vs, rfl, h1, h2⟩ := rp.lst s.w
      refine ⟨a, rfl, .inl ⟨⟨vs, SqL.of h1⟩, hp g' H' _ s fun g2 H2 t => ?_⟩⟩
      obtain ⟨b, us, e, h3, h4⟩ := (rp.go t).lst t.w
      cases e
      exact yls_lst (SqL.of h3) t.w h4
  · refine ⟨fun pins s σ H R I ⟨_, _, _, z⟩ => z.elim⟩

theorem snd_const (A : At n S C X W) {x : Ex} {p : PV} {v : V} {f : Scope → Expr → Bool} (hd : den S x = Den.ofE fun _ Q _ => Q p) (hf : chk n x = Chk.ofE f) (hz : needTup x = false) (hp : ∀ g, RP C g p v)
    (h : ∀ e, f X.env.scope e = true → PE X e (tC v) ∧ plainT e = true) : Snd n S C g0 H0 X W x :=
  Snd.ofE A hd hf (fun ρ Q Q' E E' hq he h => hq _ h) hz fun e q => ⟨pe_weak (h e q).1 fun σ H Q z => by
    obtain ⟨g, ρ, r, z⟩ := z
    exact z g H v (Step.refl r.w) (hp g), (h e q).2⟩
theorem snd_non (A : At n S C X W) : Snd n S C g0 H0 X W .non := snd_const (v := .non) A rfl rfl rfl (fun _ => rfl) fun e q => by
  split at q
  · exact ⟨pe_non, rfl⟩
  · cases q
theorem snd_tt (A : At n S C X W) (b : Bool) : Snd n S C g0 H0 X W (.tt b) := snd_const (v := .bl b) A rfl rfl rfl (fun _ => rfl) fun e q => by
  split at q
  · have q := eq_of_beq q
    subst q
    exact ⟨pe_bl, rfl⟩
  · cases q
theorem snd_int (A : At n S C X W) (i : Int) : Snd n S C g0 H0 X W (.int i) := snd_const (v := .int i) A rfl rfl rfl (fun _ => rfl) fun e q => by
  split at q
  · have q := of_decide_eq_true q
    subst q
    exact ⟨pe_int, rfl⟩
  · cases q
theorem snd_str (A : At n S C X W) (i : Str) : Snd n S C g0 H0 X W (.str i) := snd_const (v := .str i) A rfl rfl rfl (fun _ => rfl) fun e q => by
  split at q
  · have q := of_decide_eq_true q
    subst q
    exact ⟨pe_str, rfl⟩
  · cases q
theorem snd_con (A : At n S C X W) (c : Nat) : Snd n S C g0 H0 X W (.con c) :=
  Snd.ofE A rfl rfl (fun ρ Q Q' E E' hq he h => hq _ h) rfl fun e q => by
    split at q
    · rename_i x pos
      simp only [Bool.and_eq_true, decide_eq_true_eq] at q
      obtain ⟨hg, ok⟩ := glo_Gl q.2
      obtain ⟨k, L, _⟩ := A.lib
      obtain ⟨u, v, hm, rv, hp⟩ := L.cns c x q.1
      refine ⟨pe_weak (pe_glob hg hm rv (okName_db ok).1) fun σ H Q h => ?_, rfl⟩
      obtain ⟨g, ρ, r, h⟩ := h
      exact h g H v (Step.refl r.w) (hp g)
    · cases q
theorem snd_fnv (A : At n S C X W) (j : Nat) : Snd n S C g0 H0 X W (.fnv j) :=
  Snd.ofE A rfl rfl (fun ρ Q Q' E E' hq he h => hq _ h) rfl fun e q => by
    split at q
    · rename_i x pos
      simp only [Bool.and_eq_true, decide_eq_true_eq] at q
      obtain ⟨hg, ok⟩ := glo_Gl q.2
      obtain ⟨k, L, _⟩ := A.lib
      obtain ⟨f, fd, ps, hm, hf, _⟩ := L.fns j x q.1
      refine ⟨pe_weak (pe_glob (v := .ref f) hg hm rfl (okName_db ok).1) fun σ H Q h => ?_, rfl⟩
      obtain ⟨g, ρ, r, h⟩ := h
      exact h g H _ (Step.refl r.w) ⟨f, hf, rfl⟩
    · cases q

theorem snd_neg (A : At n S C X W) (ia : Snd n S C g0 H0 X W a) : Snd n S C g0 H0 X W (.neg a) :=
  Snd.ofE A rfl rfl (fun ρ Q Q' E E' hq he h => (den_mono S (.neg a)).e hq he h) rfl fun e q => by
    split at q
    · refine ⟨pe_weak (pe_un un_neg (ia.e _ q)) fun σ H Q h => ?_, rfl⟩
      obtain ⟨g, ρ, r, h⟩ := h
      refine tE_in (den_mono S a) r h (fun p g1 H1 v s1 r1 rp h => ?_) fun x z => z
      cases p <;> first | exact h.elim | skip
      have rp : v = .int _ := rp
      exact ⟨_, rp, h g1 H1 _ s1 rfl⟩
    · cases q
theorem snd_not (A : At n S C X W) (ia : Snd n S C g0 H0 X W a) : Snd n S C g0 H0 X W (.not a) := by
  refine Snd.ofT A rfl rfl (fun ρ Q Q' E E' hq he h => (den_mono S (.not a)).e hq he h) rfl (fun e q => ?_) (fun e q => ?_) fun e q z => ?_
  · split at q
    · refine pe_weak (pe_notT (ia.o _ q)) fun σ H Q h => ?_
      obtain ⟨g, ρ, r, h⟩ := h
      refine tO_in (den_mono S a) r h (fun p g1 H1 v s1 r1 rp h => ?_) fun x z => z
      obtain ⟨k, h1, h2⟩ := tru_of s1.w A.K rp h
      exact ⟨k, h1, h2 g1 H1 _ s1 rfl⟩
    · cases q
  · split at q
    · refine pt_weak (pt_not (ia.t _ q)) fun σ H Q h => ?_
      obtain ⟨g, ρ, r, h⟩ := h
      exact tT_in (den_mono S a) r h (fun p g1 H1 s1 r1 h => h g1 H1 s1) fun x z => z
    · cases q
  · split at q
    · cases z
    · cases q

theorem snd_bin (A : At n S C X W) (op : Bop) (ia : Snd n S C g0 H0 X W a) (ib : Snd n S C g0 H0 X W b) : Snd n S C g0 H0 X W (.bin op a b) :=
  Snd.ofN A rfl rfl (fun ρ Q Q' E E' hq he h => (den_mono S (.bin op a b)).e hq he h) rfl fun e q => by
    split at q
    · simp only [Bool.and_eq_true] at q
      obtain ⟨⟨q1, q2⟩, q3⟩ := q
      have q1 := eq_of_beq q1
      subst q1
      obtain ⟨r, hr, hx⟩ := bin_ok (X := X) A.K op
      refine ⟨pe_weak (pe_op hr (ia.o _ q2) (ib.o _ q3)) fun σ H Q h => ?_, rfl⟩
      obtain ⟨g, ρ, rel, h⟩ := h
      exact tO_in (den_mono S a) rel h (fun p g1 H1 v s1 rel1 rp1 h1 => tO_in (den_mono S b) rel1 h1 (fun q g2 H2 u s2 rel2 rp2 h2 => hx g2 H2 p q v u Q s2.w (rp1.go s2) rp2 (binW_mono (fun _ z => z.go (s1.trans s2)) h2)) fun x z => z.go s1) fun x z => z
    · cases q
theorem snd_cmp (A : At n S C X W) (op : Cop) (ia : Snd n S C g0 H0 X W a) (ib : Snd n S C g0 H0 X W b) : Snd n S C g0 H0 X W (.cmp op a b) := by
  obtain ⟨r, hr, hx⟩ := cmp_ok (X := X) A.K A.hu op
  refine Snd.ofT A rfl rfl (fun ρ Q Q' E E' hq he h => (den_mono S (.cmp op a b)).e hq he h) rfl (fun e q => ?_) (fun e q => ?_) fun e q z => ?_
  · split at q
    · simp only [Bool.and_eq_true] at q
      obtain ⟨⟨q1, q2⟩, q3⟩ := q
      have q1 := eq_of_beq q1
      subst q1
      refine pe_weak (pe_cmpR hr (ia.o _ q2) (ib.o _ q3) (nomark_of (ib.st _ q3).2.1)) fun σ H Q h => ?_
      obtain ⟨g, ρ, rel, h⟩ := h
      exact tO_in (den_mono S a) rel h (fun p g1 H1 v s1 rel1 rp1 h1 => tO_in (den_mono S b) rel1 h1 (fun q g2 H2 u s2 rel2 rp2 h2 => hx g2 H2 p q v u Q s2.w (rp1.go s2) rp2 (cmpW_mono (fun c z => z g2 H2 (.bl c) (s1.trans s2) rfl) h2)) fun x z => z.go s1) fun x z => z
    · cases q
  · split at q
    · simp only [Bool.and_eq_true] at q
      obtain ⟨⟨q1, q2⟩, q3⟩ := q
      have q1 := eq_of_beq q1
      subst q1
      refine pt_weak (pt_cmpR hr (ia.o _ q2) (ib.o _ q3) (nomark_of (ib.st _ q3).2.1)) fun σ H Q h => ?_
      obtain ⟨g, ρ, rel, h⟩ := h
      exact tO_in (den_mono S a) rel h (fun p g1 H1 v s1 rel1 rp1 h1 => tO_in (den_mono S b) rel1 h1 (fun q g2 H2 u s2 rel2 rp2 h2 => hx g2 H2 p q v u _ s2.w (rp1.go s2) rp2 (cmpW_mono (fun c z => ⟨c, rfl, z g2 H2 (s1.trans s2)⟩) h2)) fun x z => z.go s1) fun x z => z
    · cases q
  · split at q
    · cases z
    · cases q
theorem snd_cmp2 (A : At n S C X W) (o1 o2 : Cop) (ia : Snd n S C g0 H0 X W a) (ib : Snd n S C g0 H0 X W b) (ic : Snd n S C g0 H0 X W c) : Snd n S C g0 H0 X W (.cmp2 o1 o2 a b c) := by
  obtain ⟨r, hr, hx⟩ := cmp_ok (X := X) A.K A.hu o1
  obtain ⟨r', hr', hx'⟩ := cmp_ok (X := X) A.K A.hu o2
  have core : ∀ {g : Gh} {ρ : Env'} {σ : L2.St} {H : Hp} {Q : VK} {R : Bool → Prop}, Rel C g0 H0 g H ρ σ → (den S (.cmp2 o1 o2 a b c)).t ρ R (XW C g H W σ) → (∀ k g' H', Step C g H g' H' → R k → Q (.bl k) H') →
      tChain r r' (tO C g0 H0 W (den S a).o) (tO C g0 H0 W (den S b).o) (tO C g0 H0 W (den S c).o) σ H Q := fun {g ρ σ H Q R} rel h hR =>
    tO_in (den_mono S a) rel h (fun p g1 H1 v s1 rel1 rp1 h1 => tO_in (den_mono S b) rel1 h1 (fun q g2 H2 u s2 rel2 rp2 h2 => hx g2 H2 p q v u _ s2.w (rp1.go s2) rp2 (cmpW_mono (fun k z => ⟨k, rfl, by
      cases k with
      | false => exact (hR false g2 H2 (s1.trans s2) z)
      | true =>
        exact tO_in (den_mono S c) rel2 z (fun w g3 H3 t s3 rel3 rp3 h3 => hx' g3 H3 q w u t Q s3.w (rp2.go s3) rp3 (cmpW_mono (fun k z => hR k g3 H3 ((s1.trans s2).trans s3) z) h3)) fun x z => z.go (s1.trans s2)⟩) h2)) fun x z => z.go s1) fun x z => z
  have marks : ∀ {y z : Expr}, notSet z = true → lastMarks [copP o1, copP o2] [y, z] = false := fun {y z} hz => by
    show behindInMarks (copP o2) z = false
    exact nomark_of hz
  refine Snd.ofT A rfl rfl (fun ρ Q Q' E E' hq he h => (den_mono S (.cmp2 o1 o2 a b c)).e hq he h) rfl (fun e q => ?_) (fun e q => ?_) fun e q z => ?_
  · split at q
    · simp only [Bool.and_eq_true] at q
      obtain ⟨⟨⟨⟨q1, q2⟩, q3⟩, q4⟩, q5⟩ := q
      have q1 := eq_of_beq q1
      have q2 := eq_of_beq q2
      subst q1
      subst q2
      refine pe_weak (pe_chain hr hr' (ia.o _ q3) (ib.o _ q4) (ic.o _ q5) (marks (ic.st _ q5).2.1)) fun σ H Q h => ?_
      obtain ⟨g, ρ, rel, h⟩ := h
      exact core rel h fun k g' H' s z => z g' H' _ s rfl
    · cases q
  · split at q
    · simp only [Bool.and_eq_true] at q
      obtain ⟨⟨⟨⟨q1, q2⟩, q3⟩, q4⟩, q5⟩ := q
      have q1 := eq_of_beq q1
      have q2 := eq_of_beq q2
      subst q1
      subst q2
      refine pt_weak (pt_chain hr hr' (ia.o _ q3) (ib.o _ q4) (ic.o _ q5) (marks (ic.st _ q5).2.1)) fun σ H Q h => ?_
      obtain ⟨g, ρ, rel, h⟩ := h
      exact core rel h fun k g' H' s z => ⟨k, rfl, z g' H' s⟩
    · cases q
  · split at q
    · cases z
    · cases q

theorem snd_and (A : At n S C X W) (ia : Snd n S C g0 H0 X W a) (ib : Snd n S C g0 H0 X W b) : Snd n S C g0 H0 X W (.and a b) := by
  have hw : ∀ x y r pos, (chk n a).e X.env.scope x = true → (chk n b).e X.env.scope (.BoolOp .And (y :: r) pos) = true → PW X (.BoolOp .And (x :: y :: r) pos) (tT C g0 H0 W (den S (.and a b)).t) := fun x y r pos q1 q2 => by
    refine pw_weak (pw_and (ia.t _ q1) (ib.w _ q2 rfl)) fun σ H Q h => ?_
    obtain ⟨g, ρ, rel, h⟩ := h
    refine tT_in (den_mono S a) rel h (fun k g1 H1 s1 rel1 h => ?_) fun x z => z
    cases k with
    | true => exact tT_in (den_mono S b) rel1 h (fun k g2 H2 s2 rel2 h => h g2 H2 (s1.trans s2)) fun x z => z.go s1
    | false => exact h g1 H1 s1
  refine Snd.ofT A rfl rfl (fun ρ Q Q' E E' hq he h => (den_mono S (.and a b)).e hq he h) rfl (fun e q => ?_) (fun e q => ?_) fun e q z => ?_
  · split at q
    · simp only [Bool.and_eq_true] at q
      refine pe_weak (pe_and (ia.e _ q.1) (ib.e _ q.2)) fun σ H Q h => ?_
      obtain ⟨g, ρ, rel, h⟩ := h
      refine tE_in (den_mono S a) rel h (fun p g1 H1 v s1 rel1 rp h => ?_) fun x z => z
      cases p <;> first | exact h.elim | skip
      rename_i k
      have rp : v = .bl k := rp
      refine ⟨k, rp, ?_⟩
      cases k with
      | true => exact tE_in (den_mono S b) rel1 h (fun p g2 H2 v s2 rel2 rp h => h g2 H2 v (s1.trans s2) rp) fun x z => z.go s1
      | false => exact h g1 H1 _ s1 rfl
    · cases q
  · split at q
    · simp only [Bool.and_eq_true] at q
      exact (hw _ _ _ _ q.1 q.2).pt
    · cases q
  · split at q
    · simp only [Bool.and_eq_true] at q
      exact hw _ _ _ _ q.1 q.2
    · cases q
theorem snd_or (A : At n S C X W) (ia : Snd n S C g0 H0 X W a) (ib : Snd n S C g0 H0 X W b) : Snd n S C g0 H0 X W (.or a b) := by
  have hw : ∀ x y r pos, (chk n a).e X.env.scope x = true → (chk n b).e X.env.scope (.BoolOp .Or (y :: r) pos) = true → PW X (.BoolOp .Or (x :: y :: r) pos) (tT C g0 H0 W (den S (.or a b)).t) := fun x y r pos q1 q2 => by
    refine pw_weak (pw_or (ia.t _ q1) (ib.w _ q2 rfl)) fun σ H Q h => ?_
    obtain ⟨g, ρ, rel, h⟩ := h
    refine tT_in (den_mono S a) rel h (fun k g1 H1 s1 rel1 h => ?_) fun x z => z
    cases k with
    | false => exact tT_in (den_mono S b) rel1 h (fun k g2 H2 s2 rel2 h => h g2 H2 (s1.trans s2)) fun x z => z.go s1
    | true => exact h g1 H1 s1
  refine Snd.ofT A rfl rfl (fun ρ Q Q' E E' hq he h => (den_mono S (.or a b)).e hq he h) rfl (fun e q => ?_) (fun e q => ?_) fun e q z => ?_
  · split at q
    · simp only [Bool.and_eq_true] at q
      refine pe_weak (pe_or (ia.e _ q.1) (ib.e _ q.2)) fun σ H Q h => ?_
      obtain ⟨g, ρ, rel, h⟩ := h
      refine tE_in (den_mono S a) rel h (fun p g1 H1 v s1 rel1 rp h => ?_) fun x z => z
      cases p <;> first | exact h.elim | skip
      rename_i k
      have rp : v = .bl k := rp
      refine ⟨k, rp, ?_⟩
      cases k with
      | false => exact tE_in (den_mono S b) rel1 h (fun p g2 H2 v s2 rel2 rp h => h g2 H2 v (s1.trans s2) rp) fun x z => z.go s1
      | true => exact h g1 H1 _ s1 rfl
    · cases q
  · split at q
    · simp only [Bool.and_eq_true] at q
      exact (hw _ _ _ _ q.1 q.2).pt
    · cases q
  · split at q
    · simp only [Bool.and_eq_true] at q
      exact hw _ _ _ _ q.1 q.2
    · cases q
theorem snd_one (A : At n S C X W) (ia : Snd n S C g0 H0 X W a) : Snd n S C g0 H0 X W (.one a) := by
  have hw : ∀ op x pos, (chk n a).e X.env.scope x = true → PW X (.BoolOp op [x] pos) (tT C g0 H0 W (den S (.one a)).t) := fun op x pos q1 => by
    cases op with
    | And => exact pw_and1 (ia.t _ q1)
    | Or => exact pw_or1 (ia.t _ q1)
  refine Snd.ofT A rfl rfl (fun ρ Q Q' E E' hq he h => (den_mono S a).e hq he h) rfl (fun e q => ?_) (fun e q => ?_) fun e q z => ?_
  · split at q
    · exact pe_one (ia.e _ q)
    · cases q
  · split at q
    · exact (hw _ _ _ q).pt
    · cases q
  · split at q
    · exact hw _ _ _ q
    · cases q
theorem snd_ite (A : At n S C X W) (ic : Snd n S C g0 H0 X W c) (ia : Snd n S C g0 H0 X W a) (ib : Snd n S C g0 H0 X W b) : Snd n S C g0 H0 X W (.ite c a b) := by
  have m : MonoE (den S (.ite c a b)).e := fun ρ Q Q' E E' hq he h => (den_mono S (.ite c a b)).e hq he h
  have he : ∀ e, (chk n (.ite c a b)).e X.env.scope e = true → PE X e (tE C g0 H0 W (den S (.ite c a b)).e) := fun e q => by
    have q := (chk_ofE q).2.2.2
    split at q
    · simp only [Bool.and_eq_true] at q
      obtain ⟨⟨q1, q2⟩, q3⟩ := q
      refine pe_weak (pe_ifExp (ic.t _ q1) (ia.e _ q2) (ib.e _ q3)) fun σ H Q h => ?_
      obtain ⟨g, ρ, rel, h⟩ := h
      refine tT_in (den_mono S c) rel h (fun k g1 H1 s1 rel1 h => ?_) fun x z => z
      cases k with
      | true => exact tE_in (den_mono S a) rel1 h (fun p g2 H2 v s2 rel2 rp h => h g2 H2 v (s1.trans s2) rp) fun x z => z.go s1
      | false => exact tE_in (den_mono S b) rel1 h (fun p g2 H2 v s2 rel2 rp h => h g2 H2 v (s1.trans s2) rp) fun x z => z.go s1
    · cases q
  refine ⟨he, fun e q => tEO m (he e q), fun e q => ⟨fun _ _ _ _ _ _ ⟨_, _, _, z⟩ => z.elim⟩, fun e q z => ⟨fun _ _ _ _ _ _ _ ⟨_, _, _, z⟩ => z.elim⟩, fun b e q => ?_, fun e q => ⟨(chk_ofE q).1, (chk_ofE q).2.1, (chk_ofE q).2.2.1⟩, fun es q => (by cases q), fun es q => (by cases q), fun e tg q z => tEI A m (he e q) tg, fun e tg q z => tEF A m (he e q) tg, fun e q => (chk_ofE (show (chk n (.ite c a b)).e X.env.scope e = true from q)).2.1, fun l q => (by cases q)⟩
  cases b with
  | false => exact tES m (he e q)
  | true => exact pe_weak (pe_false (he e q)) fun σ H Q ⟨_, _, _, z⟩ => z

/-! ### arguments -/
theorem args_nil {n : Nms} {as : Ex} {sc : Scope} (h : (chk n as).a sc [] = true) : as = .nil := by
  cases as <;> first | rfl | exact Bool.noConfusion (show false = true from h)
theorem snd_nil : Snd n S C g0 H0 X W .nil := Snd.ofA rfl rfl (fun es q => by
    split at q
    · exact ⟨rfl, pa_weak pa_nil fun σ H Q ⟨g, ρ, r, h⟩ => h g H [] (Step.refl r.w) rfl⟩
    · cases q) (fun es q => by
    split at q
    · exact pa_weak pa_nil fun σ H Q ⟨g, ρ, r, h⟩ => h g H [] (Step.refl r.w) .nil
    · cases q) fun l q => by
    cases l with
    | none => exact ⟨fun pins s σ H Q I ⟨g, ρ, rel, z⟩ => po_none.run pins s σ H Q I (z g H (Step.refl rel.w))⟩
    | some y => cases q
theorem snd_cons (ia : Snd n S C g0 H0 X W a) (ib : Snd n S C g0 H0 X W b) : Snd n S C g0 H0 X W (.cons a b) := Snd.ofA rfl rfl (fun es q => by
    split at q
    · rename_i x r
      simp only [Bool.and_eq_true] at q
      obtain ⟨h1, h2⟩ := ib.a r q.2
      have hs := (ia.st x q.1).1
      refine ⟨by simp only [List.all_cons, Bool.and_eq_true]; exact ⟨hs, h1⟩, pa_weak (pa_cons (ia.e x q.1) h2 (starEach_cons hs)) fun σ H Q h => ?_⟩
      obtain ⟨g, ρ, rel, h⟩ := h
      exact tE_in (den_mono S a) rel h (fun p g1 H1 v s1 rel1 rp1 h1 => tA_in (den_mono S b) rel1 h1 (fun ps g2 H2 vs s2 rel2 rp2 h2 => h2 g2 H2 _ (s1.trans s2) (RPs.cons (RP.up s2.le _ _ rp1) rp2)) fun x z => z.go s1) fun x z => z
    · cases q) (fun es q => by
    split at q
    · rename_i x r
      simp only [Bool.and_eq_true] at q
      have hs := (ia.st x q.1).1
      refine pa_weak (pa_cons (ia.o x q.1) (ib.b r q.2) (starEach_cons hs)) fun σ H Q h => ?_
      obtain ⟨g, ρ, rel, h⟩ := h
      exact tO_in (den_mono S a) rel h (fun p g1 H1 v s1 rel1 rp1 h1 => tB_in (den_mono S b) rel1 h1 (fun ps g2 H2 vs s2 rel2 rp2 h2 => h2 g2 H2 _ (s1.trans s2) (.cons (rp1.go s2) rp2)) fun x z => z.go s1) fun x z => z
    · cases q) fun l q => by
    cases l with
    | none => cases q
    | some y =>
      have q : ((chk n a).e X.env.scope y && (chk n b).a X.env.scope []) = true := q
      simp only [Bool.and_eq_true] at q
      have e := args_nil q.2
      subst e
      refine ⟨fun pins s σ H Q I ⟨g, ρ, rel, z⟩ => (po_some (ia.e y q.1)).run pins s σ H Q I ?_⟩
      refine tE_in (den_mono S a) rel z (fun p g1 H1 v s1 r1 rp z => ?_) fun x z => z
      have z : partW [p] (fun i => ∀ g' H', Step C g H g' H' → Q i H') := z
      cases p <;> simp only [partW] at z
      have rp : v = .int _ := rp
      exact ⟨_, rp, z g1 H1 s1⟩
theorem snd_tup (A : At n S C X W) (ia : Snd n S C g0 H0 X W as) : Snd n S C g0 H0 X W (.tup as) :=
  Snd.ofE A rfl rfl (fun ρ Q Q' E E' hq he h => (den_mono S (.tup as)).e hq he h) rfl fun e q => by
    split at q
    · refine ⟨pe_weak (pe_tup (ia.a _ q).2) fun σ H Q h => ?_, rfl⟩
      obtain ⟨g, ρ, rel, h⟩ := h
      refine tA_in (den_mono S as) rel h (fun ps g1 H1 vs s1 rel1 rp h => ⟨by rw [← rp.len]; exact h.1, fun p np => ?_⟩) fun x z => z
      have s2 := Step.layF (o := .tup vs) s1.w np (fun ps z => (by cases z))
      exact h.2 _ _ _ (s1.trans s2) ⟨p, vs, rfl, .inl (.inl upd_same), RPs.up s2.le _ _ rp⟩
    · cases q
theorem snd_lst (A : At n S C X W) (ia : Snd n S C g0 H0 X W as) : Snd n S C g0 H0 X W (.lst as) :=
  Snd.ofN A rfl rfl (fun ρ Q Q' E E' hq he h => (den_mono S (.lst as)).e hq he h) rfl fun e q => by
    split at q
    · refine ⟨pe_weak (pe_lst (ia.a _ q).2) fun σ H Q h => ?_, rfl⟩
      obtain ⟨g, ρ, rel, h⟩ := h
      exact tA_in (den_mono S as) rel h (fun ps g1 H1 vs s1 rel1 rp h => ⟨by rw [← rp.len]; exact h.1, (h.2.go s1).lst s1.w rp⟩) fun x z => z
    · cases q
end
end Rk

set_option maxHeartbeats 4000000
namespace Rk
open PySem PySem.Spec PyProof.Rows L2 RZ

/-! ### zip over a list or a tuple on each side -/
/-- a tuple (true) or a list (false) -/
def SqB (b : Bool) (K : PySem.W.Frag) (H : Hp) (a : Addr) (xs : List V) : Prop := match b with
  | true => SqT K H a xs
  | false => SqL K H a xs
def IsB (b : Bool) (h : Heap) (a : Addr) (xs : Array Value) : Prop := match b with
  | true => h.IsTuple a xs
  | false => h.IsList a xs
def ItB (b : Bool) (h : Heap) (i a : Addr) (k : Nat) : Prop := match b with
  | true => h.IsTupleIter i a k
  | false => h.IsListIter i a k
def obB (b : Bool) (a : Addr) : Obj := match b with
  | true => { cls := .type "tuple_iterator", data := .fields #[.ref a, .int 0 0] }
  | false => { cls := .type "list_iterator", data := .fields #[.ref a, .int 0 0] }
theorem ItB.at {b : Bool} {h h' : Heap} {i a : Addr} {k : Nat} (x : ItB b h i a k) (e : ∀ o, h.get? i = some o → h'.get? i = some o) : ItB b h' i a k := by
  cases b
  · exact Heap.IsListIter.at x e
  · exact Heap.IsTupleIter.at x e
theorem ItB.ob {b : Bool} {h : Heap} {i a : Addr} {k : Nat} (x : ItB b h i a k) : ∃ o, h.get? i = some o ∧ ∀ v, o.data ≠ .cell v := by
  cases b
  · obtain ⟨o, e, _, d⟩ := x; exact ⟨o, e, fun v q => by rw [d] at q; cases q⟩
  · obtain ⟨o, e, _, d⟩ := x; exact ⟨o, e, fun v q => by rw [d] at q; cases q⟩
theorem ItB.ofOb {b : Bool} {h : Heap} {i a : Addr} (e : h.get? i = some (obB b a)) : ItB b h i a 0 := by
  cases b
  · exact ⟨_, e, rfl, rfl⟩
  · exact ⟨_, e, rfl, rfl⟩
theorem begins_b (b : Bool) (a : Addr) (xs : Array Value) : Begins (.ref a) (obB b a) fun h => IsB b h a xs := by
  cases b
  · exact begins_list a xs
  · exact begins_tuple a xs
theorem draws_b {prog : Program} {w : World} {A : Around} (b : Bool) (hh : A.handled = none) (it a : Addr) (hne : a ≠ it) (items : Array Value) :
    Draws prog w A it [it, a] items.size (fun i v => items[i]? = some v) (fun i h => ItB b h it a i ∧ IsB b h a items) := by
  cases b
  · exact Draws.list hh it a hne items
  · exact Draws.tuple hh it a hne items
theorem SqB.inv {X : Cx} {pins : List (Addr × Obj)} {σ : L2.St} {H : Hp} {s : Shared} {b : Bool} {a : Addr} {xs : List V} (I : Inv X pins σ H s) (h : SqB b X.K H a xs) : ∃ its : List Value, Vals xs its ∧ IsB b s.heap a its.toArray ∧ a < s.heap.objs.size := by
  cases b
  · obtain ⟨its, r, p, _⟩ := I.list h
    exact ⟨its, r, p.isList, p.lt⟩
  · obtain ⟨its, r, p, _⟩ := I.tuple h
    obtain ⟨o, ho, _⟩ := id p
    exact ⟨its, r, p, Heap.lt_size ho⟩
theorem SqB.inj {X : Cx} {pins : List (Addr × Obj)} {σ : L2.St} {H : Hp} {s : Shared} {b : Bool} {a : Addr} {xs ys : List V} (I : Inv X pins σ H s) (h : SqB b X.K H a xs) (h' : SqB b X.K H a ys) : xs = ys := by
  cases b
  · exact I.list_inj h h'
  · exact I.tuple_inj h h'

def ItzM (b1 b2 : Bool) (K : PySem.W.Frag) (a b : Addr) : It :=
  ⟨fun i H => ∃ (xs ys : List V) (x y : V), SqB b1 K H a xs ∧ SqB b2 K H b ys ∧ xs[i]? = some x ∧ ys[i]? = some y,
    fun i H v H' => ∃ T x y, v = .ref T ∧ H T = none ∧ H' = upd H T (.tup [x, y]) ∧ (∀ xs, SqB b1 K H a xs → xs[i]? = some x) ∧ ∀ ys, SqB b2 K H b ys → ys[i]? = some y,
    fun i H => ∃ xs ys : List V, SqB b1 K H a xs ∧ SqB b2 K H b ys ∧ i = min xs.length ys.length⟩
theorem turn_zipM {P : Program} {w : World} {K : PySem.W.Frag} {elts : List Expr} {kk : Nat} {tpos : Pos} {b1 b2 : Bool} {a b z TI TO i1 i2 : Addr} (D : ZipSep2 z TI TO i1 i2 [i1, a] [i2, b]) (na : a ≠ i1) (nb : b ≠ i2) :
    Turn P w K (.Tuple elts kk tpos) (ItzM b1 b2 K a b) [z, TI, TO, i1, i2] z (fun i h => IsZip h z TI TO .none ∧ IsTupOf2 h TI (.ref i1) (.ref i2) ∧ (∃ x y, IsTupOf2 h TO x y) ∧ ItB b1 h i1 a i ∧ ItB b2 h i2 b i) where
  mem := by simp
  obj := fun i h st c hc => by
    obtain ⟨hz, hTI, ⟨x, y, hTO⟩, h1, h2⟩ := st
    simp only [List.mem_cons, List.not_mem_nil, or_false] at hc
    rcases hc with q | q | q | q | q
    · rw [q]; exact ⟨_, hz, fun v q => nomatch q⟩
    · rw [q]; exact ⟨_, hTI, fun v q => nomatch q⟩
    · rw [q]; exact ⟨_, hTO, fun v q => nomatch q⟩
    · rw [q]; exact h1.ob
    · rw [q]; exact h2.ob
  keep := fun i h h' st k => by
    obtain ⟨hz, hTI, ⟨x, y, hTO⟩, h1, h2⟩ := st
    exact ⟨k z (by simp) _ hz, k TI (by simp) _ hTI, ⟨x, y, k TO (by simp) _ hTO⟩, h1.at fun o q => k i1 (by simp) o q, h2.at fun o q => k i2 (by simp) o q⟩
  item := by
    intro X hP hw hK hc i pins s σ H E I hf st hg
    subst hP hw hK
    obtain ⟨hz, hTI, ⟨x0, y0, hTO⟩, h1, h2⟩ := st
    obtain ⟨xs, ys, x, y, hqx, hqy, hx, hy⟩ := hg
    obtain ⟨its, rv, p, _⟩ := hqx.inv I
    obtain ⟨its2, rv2, p2, _⟩ := hqy.inv I
    obtain ⟨u, hu, ru⟩ := rv.get hx
    obtain ⟨u2, hu2, ru2⟩ := rv2.get hy
    have hzl : z < s.heap.objs.size := Heap.lt_size hz
    have l1 : i < its.toArray.size := by simpa using (List.getElem?_eq_some_iff.mp hu).1
    have l2 : i < its2.toArray.size := by simpa using (List.getElem?_eq_some_iff.mp hu2).1
    have hd1 : X.A.in1.handled = none := I.ok.hd hc
    refine wpAny_pyNext_zipD2_item D (draws_b b1 hd1 i1 a na its.toArray) (draws_b b2 hd1 i2 b nb its2.toArray) hz hTI hTO ⟨h1, p⟩ ⟨h2, p2⟩ l1 l2 fun v1 v2 h' tk e1 e2 z' TO' h1' h2' hT hsz hk => ?_
    have e1 : u = v1 := by simpa [hu] using e1
    have e2 : u2 = v2 := by simpa [hu2] using e2
    subst e1 e2
    refine ⟨_, rfl, wpAny_letOwnedTupleGo_zip (s := { s with heap := h', toks := tk }) z' fun h'' z'' sb => ?_⟩
    have hT2 : h''.get? s.heap.objs.size = some { cls := .type "tuple", data := .seq #[u, u2] } := (sb.2 _ (Nat.ne_of_gt hzl)).trans hT
    have new : ObjOk X.prog X.w (upd H s.heap.objs.size (.tup [x, y])) h'' s.heap.objs.size (.tup [x, y]) :=
      ⟨by show 2 ≤ sizeLine; decide, [u, u2], .cons ru (.cons ru2 .nil), ⟨_, hT2, rfl, _, rfl⟩⟩
    have I1 : Inv X pins σ (upd H s.heap.objs.size (.tup [x, y])) { s with heap := h'', toks := tk } :=
      I.turnedNew (t' := tk) (ch := [z, TI, TO, i1, i2]) (fun c o hb q => (sb.2 c (fun q' => hb (by simp [q']))).trans (hk c o (fun q' => hb (by simp [q'])) (fun q' => hb (by simp [q'])) (fun q' => hb (by simp [q'])) (fun q' => hb (by simp [q'])) q)) hf (Nat.le_refl _) new
    refine ⟨.ref s.heap.objs.size, _, I1, rfl, ⟨_, x, y, rfl, I.hok.fresh (Nat.le_refl _), rfl, fun l hl => by rw [SqB.inj I hl hqx]; exact hx, fun l hl => by rw [SqB.inj I hl hqy]; exact hy⟩, ⟨z'', ?_, ⟨u, u2, ?_⟩, ?_, ?_⟩, fun c hcm => ?_⟩
    · exact (sb.2 _ D.TIz).trans (hk _ _ D.TIz D.TITO D.TIi1 D.TIi2 hTI)
    · exact (sb.2 _ D.TOz).trans TO'
    · exact h1'.1.at fun o q => (sb.2 _ D.zi1.symm).trans q
    · exact h2'.1.at fun o q => (sb.2 _ D.zi2.symm).trans q
    · have hlt : c < s.heap.objs.size := by
        simp only [List.mem_cons, List.not_mem_nil, or_false] at hcm
        rcases hcm with q | q | q | q | q
        · rw [q]; exact hzl
        · rw [q]; exact Heap.lt_size hTI
        · rw [q]; exact Heap.lt_size hTO
        · rw [q]; obtain ⟨_, e1, _⟩ := h1.ob; exact Heap.lt_size e1
        · rw [q]; obtain ⟨_, e2, _⟩ := h2.ob; exact Heap.lt_size e2
      rw [upd_ne (Nat.ne_of_lt hlt)]
      exact (hf c hcm).1
  done := by
    intro X hP hw hK hc i pins s σ H E I hf st hg
    subst hP hw hK
    obtain ⟨hz, hTI, ⟨x0, y0, hTO⟩, h1, h2⟩ := st
    obtain ⟨xs, ys, hqx, hqy, hend⟩ := hg
    obtain ⟨its, rv, p, _⟩ := hqx.inv I
    obtain ⟨its2, rv2, p2, _⟩ := hqy.inv I
    have l1 := rv.length
    have l2 := rv2.length
    have hd1 : X.A.in1.handled = none := I.ok.hd hc
    refine wpAny_pyNext_zipD2_end D (draws_b b1 hd1 i1 a na its.toArray) (draws_b b2 hd1 i2 b nb its2.toArray) hz hTI hTO ⟨h1, p⟩ ⟨h2, p2⟩ (by simp; omega) (by simp; omega) (by simp; omega) fun h' tk hk => ⟨rfl, I.turnedL (t' := tk) (ch := [z, TI, TO, i1, i2]) (fun c o hb q =>
      hk c o (fun q' => hb (by simp [q'])) (fun q' => hb (by simp [q'])) (fun q' => hb (by simp [q'])) (fun q' => hb (by simp [q'])) q) hf⟩
  self := fun A i s Q E st h => wpAny_pyIter_zip st.1 h

def iZipM (K : PySem.W.Frag) (ta : TA) : TI := fun σ H R => ta σ H fun vs H1 => ∃ b1 b2 a b xs ys, vs = [.ref a, .ref b] ∧ SqB b1 K H1 a xs ∧ SqB b2 K H1 b ys ∧ R (ItzM b1 b2 K a b) H1
theorem pi_zipM {X : Cx} {e e2 : Expr} {ta : TA} {p pos tpos : Pos} {elts : List Expr} {kk : Nat} (hg : Gl X "zip") (hm : X.mg "zip" = none) (ha : PA X [e, e2] ta)
    (hs : starEach [e, e2] X.env = (false, eval e X.env) :: starEach [e2] X.env := by rfl) (hpl : (backTo pos (starEach [e2] X.env)).any (·.1) = false := by rfl) :
    PI X (.Tuple elts kk tpos) (.Call (.Name "zip" p) [e, e2] [] pos) (iZipM X.K ta) := by
  refine ⟨fun pins s σ H R I h => ?_⟩
  refine Call_ (ld_blt I hg hm PyProof.Rows.boot_zip (PyProof.Rows.callWith_type1 (thn (ha.run pos pins s σ H _ I h) fun us s1 ⟨vs, H1, I1, r1, q1⟩ => ?_) hs hpl))
  obtain ⟨b1, b2, a, b, xs, ys, ex, hqx, hqy, q⟩ := q1
  subst ex
  cases r1 with
  | cons r rr =>
    cases rr with
    | cons r' rr =>
      cases rr
      cases r
      cases r'
      obtain ⟨its, rv, p1, lt1⟩ := hqx.inv I1
      obtain ⟨its2, rv2, p2, lt2⟩ := hqy.inv I1
      refine zip_begins2 (begins_b b1 a its.toArray) (begins_b b2 b its2.toArray) p1 p2 fun h' hz hTI hTO h1 h2 hsz hk => wpAny_pyIter_zip hz ?_
      have I2 : Inv X pins σ H1 { s1 with heap := h' } := I1.kept (t' := s1.toks) hk
      have D : ZipSep2 (s1.heap.objs.size + 4) (s1.heap.objs.size + 2) (s1.heap.objs.size + 3) s1.heap.objs.size (s1.heap.objs.size + 1) [s1.heap.objs.size, a] [s1.heap.objs.size + 1, b] := by
        have y1 : @LT.lt Nat _ a s1.heap.objs.size := lt1
        have y2 : @LT.lt Nat _ b s1.heap.objs.size := lt2
        clear lt1 lt2
        generalize s1.heap.objs.size = m at *
        constructor <;> simp only [List.mem_cons, List.not_mem_nil, or_false, not_or, true_or, ne_eq] <;> (try constructor) <;> (first | trivial | (refine PySem.W.neN ?_; omega) | (intro e; have e : @Eq Nat _ _ := e; omega))
      refine ⟨s1.heap.objs.size + 4, [s1.heap.objs.size + 4, s1.heap.objs.size + 2, s1.heap.objs.size + 3, s1.heap.objs.size, s1.heap.objs.size + 1], _, _, H1, rfl, I2, turn_zipM D (Nat.ne_of_lt lt1) (Nat.ne_of_lt (Nat.lt_succ_of_lt lt2)), ⟨hz, hTI, ⟨_, _, hTO⟩, .ofOb h1, .ofOb h2⟩, fun c hcm => ?_, q⟩
      have hle : s1.heap.objs.size ≤ c := by
        simp only [List.mem_cons, List.not_mem_nil, or_false] at hcm
        rcases hcm with z | z | z | z | z <;> rw [z] <;> first | exact Nat.le_refl _ | exact Nat.le_add_right _ _
      exact I1.fpOk hle (I1.hok.fresh hle)

variable {C : Cfg} {g : Gh} {H : Hp}
theorem yls_zipM {K : PySem.W.Frag} {b1 b2 : Bool} {a b : Addr} {xs ys : List PV} {vs us : List V} (h1 : SqB b1 K H a vs) (h2 : SqB b2 K H b us) (w : W0 C g H) (r1 : RPs C g xs vs) (r2 : RPs C g ys us) : Yls C (ItzM b1 b2 K a b) (zipL xs ys) g H := by
  refine ⟨fun k x e => ?_, vs, us, h1, h2, ?_⟩
  · obtain ⟨p, q, e1, e2, rfl⟩ := zipL_get e
    obtain ⟨v, e3, rv⟩ := r1.get e1
    obtain ⟨u, e4, ru⟩ := r2.get e2
    refine ⟨⟨vs, us, v, u, h1, h2, e3, e4⟩, fun z H2 y => ?_⟩
    obtain ⟨T, x, y, rfl, n, rfl, y1, y2⟩ := y
    have e5 := y1 vs h1
    have e6 := y2 us h2
    rw [e3] at e5
    rw [e4] at e6
    cases e5
    cases e6
    exact yls_pair w n rv ru
  · rw [zipL_len, r1.len, r2.len]
end Rk

set_option maxHeartbeats 4000000
namespace Rk
open PySem PySem.Spec PyProof.Rows L2
section
variable {prog : Program} {w : World} {A : Around} {E : Value → Shared → Prop} {s : Shared}
theorem enum_newT (t : Addr) (items : Array Value) (n : Nat) (dct : Option Addr) (sl : Array (Option Value)) :
    Meets (Builtin.«enumerate.__new__» ⟨[.type "enumerate", .ref t], []⟩) (fun _ R s => s.heap.get? t = some { cls := .type "tuple", dict := dct, data := .seq items n, slots := sl } ∧
      R (.ok (.ret (.ref (s.heap.push { cls := .type "tuple_iterator", data := .fields #[.ref t, .int 0 0] }).objs.size)))
        { s with heap := (s.heap.push { cls := .type "tuple_iterator", data := .fields #[.ref t, .int 0 0] }).push { cls := .type "enumerate", data := .fields #[.none, .bool false, .ref s.heap.objs.size, rawInt 0, .none, .none] } }) :=
  .of_wp fun prog w A R s h => by
    obtain ⟨hp, g, d, tk, os⟩ := s
    obtain ⟨ht, h⟩ := h
    have hsub := sub_enumerate
    have hT : Heap.IsTuple (Shared.heap ⟨hp, g, d, tk, os⟩) t items := ⟨_, ht, rfl, n, rfl⟩
    have q1 : ∀ {A' : Around} {E : Value → Shared → Prop} {Q : Value → Shared → Prop}, Q (.ref hp.objs.size) ⟨hp.push { cls := .type "tuple_iterator", data := .fields #[.ref t, .int 0 0] }, g, d, tk, os⟩ → wpAny (model prog w) A' (pyIter (.ref t)) Q E ⟨hp, g, d, tk, os⟩ :=
      fun q => (begins_tuple t items).iter prog w _ _ ⟨hp, g, d, tk, os⟩ _ hT q
    wp_walk using wpAny_loadPart' ht
    refine wpAny_stack_any fun st => wpAny_pure ?_
    split
    · rename_i c _ _ _ _ _
      cases (c == Value.type "enumerate")
      · wp_walk using wpAny_loadPart' ht, q1
        exact ⟨_, rfl, h⟩
      · wp_walk using wpAny_loadPart' ht, q1
        exact ⟨_, rfl, h⟩
    · wp_walk using wpAny_loadPart' ht, q1
      exact ⟨_, rfl, h⟩
theorem call_enumT {t : Addr} {items : Array Value} {Q : Value → Shared → Prop} (hT : s.heap.IsTuple t items)
    (h : ∀ h', IsEnum h' (s.heap.objs.size + 1) s.heap.objs.size 0 .none → h'.IsTupleIter s.heap.objs.size t 0 →
      (∀ b o, s.heap.get? b = some o → h'.get? b = some o) → Q (.ref (s.heap.objs.size + 1)) { s with heap := h' }) :
    wpAny (model prog w) A (call (.type "enumerate") [.ref t]) Q E s := by
  obtain ⟨⟨c, dct, dt, sl⟩, ht, hc, n, hd⟩ := hT
  cases (show c = .type "tuple" from hc)
  cases (show dt = .seq items n from hd)
  refine callType_new F.called_enumerate (by decide) (F.typeCall_enumerate_1 _) (F.newCall_enumerate_1 _) (fun obj => F.args_object_init_2 obj _) F.entry_enumerate_new (enum_newT t items n dct sl) ⟨ht, ?_⟩
  generalize ho : ({ cls := .type "tuple_iterator", data := .fields #[.ref t, .int 0 0] } : Obj) = ob
  have hz : (s.heap.push ob).objs.size = s.heap.objs.size + 1 := Heap.size_push ..
  show _ ∧ _
  rw [hz]
  generalize hen : ({ cls := .type "enumerate", data := .fields #[.none, .bool false, .ref s.heap.objs.size, rawInt 0, .none, .none] } : Obj) = en
  have fo : ob.slots = #[] := by rw [← ho]
  have fe : en.slots = #[] := by rw [← hen]
  have he : ((s.heap.push ob).push en).get? (s.heap.objs.size + 1) = some en := by
    have z := Heap.get?_push_size (s.heap.push ob) (o := en) (by subst hen; rfl)
    rw [hz] at z
    exact z
  have hi : ((s.heap.push ob).push en).get? s.heap.objs.size = some ob := Heap.get?_push_of_some _ (Heap.get?_push_size _ (by subst ho; rfl))
  have he2 : IsEnum ((s.heap.push ob).push en) (s.heap.objs.size + 1) s.heap.objs.size 0 .none := by rw [← hen] at he ⊢; exact he
  exact ⟨⟨_, he, by subst hen; rfl⟩, h _ he2 ⟨_, hi, by subst ho; rfl, by subst ho; rfl⟩ fun b o x => Heap.get?_push_of_some _ (Heap.get?_push_of_some _ x)⟩
end
theorem call_enumB {prog : Program} {w : World} {A : Around} {E : Value → Shared → Prop} {s : Shared} {b : Bool} {a : Addr} {items : Array Value} {Q : Value → Shared → Prop} (hp : IsB b s.heap a items)
    (h : ∀ h', IsEnum h' (s.heap.objs.size + 1) s.heap.objs.size 0 .none → ItB b h' s.heap.objs.size a 0 → (∀ b o, s.heap.get? b = some o → h'.get? b = some o) → Q (.ref (s.heap.objs.size + 1)) { s with heap := h' }) :
    wpAny (model prog w) A (call (.type "enumerate") [.ref a]) Q E s := by
  cases b
  · exact call_enumerate_list hp fun h' e1 e2 _ e4 => h h' e1 e2 e4
  · exact call_enumT hp fun h' e1 e2 e4 => h h' e1 e2 e4
def IteM (b : Bool) (K : PySem.W.Frag) (a : Addr) : It :=
  ⟨fun i H => ∃ (xs : List V) (x : V), SqB b K H a xs ∧ xs[i]? = some x, fun i H v H' => ∃ T x, v = .ref T ∧ H T = none ∧ H' = upd H T (.tup [.int (i : Nat), x]) ∧ ∀ xs, SqB b K H a xs → xs[i]? = some x, fun i H => ∃ xs : List V, SqB b K H a xs ∧ i = xs.length⟩
theorem turn_enumM {P : Program} {w : World} {K : PySem.W.Frag} {elts : List Expr} {kk : Nat} {tpos : Pos} {b : Bool} {a en it : Addr} (na : a ≠ it) (ne : en ≠ it) (nae : en ∉ [it, a]) :
    Turn P w K (.Tuple elts kk tpos) (IteM b K a) [en, it] en (fun i h => (∃ old, IsEnum h en it ((i : Nat) : Int) old) ∧ ItB b h it a i) where
  mem := by simp
  obj := fun i h st c hc => by
    obtain ⟨⟨old, he⟩, hi⟩ := st
    simp only [List.mem_cons, List.not_mem_nil, or_false] at hc
    rcases hc with q | q
    · rw [q]; exact ⟨_, he, fun v q => nomatch q⟩
    · rw [q]; exact hi.ob
  keep := fun i h h' st k => by
    obtain ⟨⟨old, he⟩, hi⟩ := st
    exact ⟨⟨old, k en (by simp) _ he⟩, hi.at fun o q => k it (by simp) o q⟩
  item := by
    intro X hP hw hK hc i pins s σ H E I hf st hg
    subst hP hw hK
    obtain ⟨⟨old, he⟩, hi⟩ := st
    obtain ⟨xs, x, hq, hx⟩ := hg
    obtain ⟨its, rv, p, _⟩ := hq.inv I
    obtain ⟨u, hu, ru⟩ := rv.get hx
    have hel : en < s.heap.objs.size := Heap.lt_size he
    have hil : it < s.heap.objs.size := by
      obtain ⟨_, q, _⟩ := hi.ob
      exact Heap.lt_size q
    have lt : i < its.toArray.size := by simpa using (List.getElem?_eq_some_iff.mp hu).1
    have hd1 : X.A.in1.handled = none := I.ok.hd hc
    refine wpAny_pyNext_enum_itemC (draws_b b hd1 it a na its.toArray) he ⟨hi, p⟩ lt ne nae fun y h' tk ey ho st' hT hsz hk => ?_
    have ey : u = y := by simpa [hu] using ey
    subst ey
    refine ⟨_, rfl, wpAny_letOwnedTupleGo_enum (s := { s with heap := h', toks := tk + 1 }) ho fun h'' he' sb => ?_⟩
    have hT2 : h''.get? s.heap.objs.size = some { cls := .type "tuple", data := .seq #[.int (i : Nat) tk, u] } := (sb.2 _ (Nat.ne_of_gt hel)).trans hT
    have new : ObjOk X.prog X.w (upd H s.heap.objs.size (.tup [.int (i : Nat), x])) h'' s.heap.objs.size (.tup [.int (i : Nat), x]) :=
      ⟨by show 2 ≤ sizeLine; decide, [.int (i : Nat) tk, u], .cons ⟨_, rfl⟩ (.cons ru .nil), ⟨_, hT2, rfl, _, rfl⟩⟩
    have I1 : Inv X pins σ (upd H s.heap.objs.size (.tup [.int (i : Nat), x])) { s with heap := h'', toks := tk + 1 } :=
      I.turnedNew (t' := tk + 1) (ch := [en, it]) (fun c o hb q => (sb.2 c (fun q' => hb (by simp [q']))).trans (hk c o (fun q' => hb (by simp [q'])) (fun q' => hb (by simp [q'])) q)) hf (Nat.le_refl _) new
    refine ⟨.ref s.heap.objs.size, _, I1, rfl, ⟨_, x, rfl, I.hok.fresh (Nat.le_refl _), rfl, fun l hl => by rw [SqB.inj I hl hq]; exact hx⟩, ⟨⟨u, ?_⟩, st'.1.at fun o q => (sb.2 it ne.symm).trans q⟩, fun c hcm => ?_⟩
    · have e1 : ((i + 1 : Nat) : Int) = (i : Int) + 1 := by omega
      rw [e1]
      exact he'
    · have hlt : c < s.heap.objs.size := by
        simp only [List.mem_cons, List.not_mem_nil, or_false] at hcm
        rcases hcm with q | q
        · rw [q]; exact hel
        · rw [q]; exact hil
      rw [upd_ne (Nat.ne_of_lt hlt)]
      exact (hf c hcm).1
  done := by
    intro X hP hw hK hc i pins s σ H E I hf st hg
    subst hP hw hK
    obtain ⟨⟨old, he⟩, hi⟩ := st
    obtain ⟨xs, hq, hend⟩ := hg
    obtain ⟨its, rv, p, _⟩ := hq.inv I
    have l1 := rv.length
    have hn : i = its.toArray.size := by simp; omega
    subst hn
    have hd1 : X.A.in1.handled = none := I.ok.hd hc
    refine wpAny_pyNext_enum_endD (draws_b b hd1 it a na its.toArray) he ⟨hi, p⟩ fun h' eb => ⟨rfl, I.turnedL (t' := s.toks) (ch := [en, it]) (fun c o hb q => eb c o (fun q' => hb (by simp [q'])) q) hf⟩
  self := fun A i s Q E st h => let ⟨⟨_, he⟩, _⟩ := st; wpAny_pyIter_enum he h
def iEnumM (K : PySem.W.Frag) (ta : TA) : TI := fun σ H R => ta σ H fun vs H1 => ∃ b a xs, vs = [.ref a] ∧ SqB b K H1 a xs ∧ R (IteM b K a) H1
theorem pi_enumM {X : Cx} {e : Expr} {ta : TA} {p pos tpos : Pos} {elts : List Expr} {kk : Nat} (hg : Gl X "enumerate") (hm : X.mg "enumerate" = none) (ha : PA X [e] ta) (hs : starEach [e] X.env = [(false, eval e X.env)] := by rfl) :
    PI X (.Tuple elts kk tpos) (.Call (.Name "enumerate" p) [e] [] pos) (iEnumM X.K ta) := by
  refine ⟨fun pins s σ H R I h => ?_⟩
  refine Call_ (ld_blt I hg hm boot_enumerate (PyProof.Rows.callWith_type1 (thn (ha.run pos pins s σ H _ I h) fun us s1 ⟨vs, H1, I1, r1, q1⟩ => ?_) hs rfl))
  obtain ⟨b, a, xs, ex, hq, q⟩ := q1
  subst ex
  cases r1 with
  | cons r rr =>
    cases rr
    cases r
    obtain ⟨its, rv, p1, lt1⟩ := hq.inv I1
    refine call_enumB p1 fun h' he hi hk => wpAny_pyIter_enum he ?_
    have I2 : Inv X pins σ H1 { s1 with heap := h' } := I1.kept (t' := s1.toks) hk
    have na : a ≠ s1.heap.objs.size := Nat.ne_of_lt lt1
    have na2 : s1.heap.objs.size + 1 ∉ [s1.heap.objs.size, a] := by
      simp only [List.mem_cons, List.not_mem_nil, or_false, not_or]
      exact ⟨Nat.succ_ne_self _, (Nat.ne_of_lt (Nat.lt_succ_of_lt lt1)).symm⟩
    refine ⟨s1.heap.objs.size + 1, [s1.heap.objs.size + 1, s1.heap.objs.size], _, _, H1, rfl, I2, turn_enumM na (Nat.succ_ne_self _) na2, ⟨⟨.none, he⟩, hi⟩, fun c hcm => ?_, q⟩
    have hle : s1.heap.objs.size ≤ c := by
      simp only [List.mem_cons, List.not_mem_nil, or_false] at hcm
      rcases hcm with z | z <;> rw [z] <;> first | exact Nat.le_refl _ | exact Nat.le_add_right _ _
    exact I1.fpOk hle (I1.hok.fresh hle)
theorem yls_enumM {C : Cfg} {g : Gh} {H : Hp} {K : PySem.W.Frag} {b : Bool} {a : Addr} {xs : List PV} {vs : List V} (h1 : SqB b K H a vs) (w : W0 C g H) (r1 : RPs C g xs vs) : Yls C (IteM b K a) (enumL 0 xs) g H := by
  refine ⟨fun k x e => ?_, vs, h1, ?_⟩
  · obtain ⟨p, e1, rfl⟩ := enumL_get e
    obtain ⟨v, e3, rv⟩ := r1.get e1
    refine ⟨⟨vs, v, h1, e3⟩, fun z H2 y => ?_⟩
    obtain ⟨T, x, rfl, n, rfl, y1⟩ := y
    have e5 := y1 vs h1
    rw [e3] at e5
    cases e5
    exact yls_pair (p := .int ((0 + k : Nat) : Int)) (x := .int (k : Nat)) w n (by show V.int _ = V.int _; rw [Nat.zero_add]) rv
  · rw [enumL_len, r1.len]
end Rk

set_option maxHeartbeats 4000000
namespace Rk
open PySem PySem.Spec PyProof.Rows L2

/-! ### t[::-1], t a tuple -/
section
variable {prog : Program} {w : World} {A : Around} {E : Value → Shared → Prop} {s : Shared}
theorem adjust_rev (n : Nat) : Builtin.Slice.sliceAdjust none none (-1) (n : Int) = ((n : Int) - 1, -1) := by
  simp [Builtin.Slice.sliceAdjust]
theorem places_rev (n : Nat) : Builtin.Slice.slicePlaces ((n : Int) - 1) (-1) (-1) = n := by
  unfold Builtin.Slice.slicePlaces
  have h1 : ¬ ((-1 : Int) > 0) := by omega
  simp only [h1, if_false, Int.neg_neg, Int.ediv_one]
  split <;> omega
theorem applied_rev {sl : Addr} {vl vu vs : Value} {n : Nat} {Q : Int × Int × Nat → Shared → Prop} (hs : s.heap.IsSliceOf sl vl vu vs) (pl : IsPart vl none) (pu : IsPart vu none) (ps : IsPart vs (some (-1)))
    (h : Q ((n : Int) - 1, -1, n) s) : wpAny (model prog w) A (Builtin.Slice.sliceApplied (.ref sl) (pure (n : Int))) Q E s := by
  obtain ⟨os, hos, hcs, hds⟩ := id hs
  unfold Builtin.Slice.sliceApplied Builtin.Slice.sliceFields
  refine wpAny_bind (wpAny_bind (wpAny_field hos hds (x := vl) rfl (wpAny_bind (wpAny_field hos hds (x := vu) rfl (wpAny_bind (wpAny_field hos hds (x := vs) rfl (wpAny_pure ?_)))))))
  refine wpAny_bind (HT.slicePart_ ps ?_)
  show wpAny _ _ (if ((-1 : Int) == 0) = true then _ else _) _ _ s
  rw [if_neg (by decide)]
  refine wpAny_bind (HT.slicePart_ pl (wpAny_bind (HT.slicePart_ pu (wpAny_bind (wpAny_pure ?_)))))
  show wpAny _ _ (match Builtin.Slice.sliceAdjust none none (-1) (n : Int) with | (lo, hi) => pure (lo, (-1 : Int), Builtin.Slice.slicePlaces lo hi (-1))) _ _ s
  rw [adjust_rev n]
  show wpAny _ _ (pure ((n : Int) - 1, (-1 : Int), Builtin.Slice.slicePlaces ((n : Int) - 1) (-1) (-1))) _ _ s
  rw [places_rev]
  exact wpAny_pure h
theorem pick_rev (xs : Array Value) : ((List.range xs.size).filterMap fun (m : Nat) => xs[(((xs.size : Int) - 1) + (m : Int) * (-1)).toNat]?).toArray = xs.toList.reverse.toArray := by
  have cg : ∀ (ks : List Nat) (f g : Nat → Option Value), (∀ k ∈ ks, f k = g k) → ks.filterMap f = ks.filterMap g := by
    intro ks f g
    induction ks with
    | nil => intro _; rfl
    | cons k ks ih =>
      intro h
      rw [List.filterMap_cons, List.filterMap_cons, h k (by simp), ih fun j hj => h j (by simp [hj])]
  have e : ((List.range xs.size).filterMap fun (m : Nat) => xs[(((xs.size : Int) - 1) + (m : Int) * (-1)).toNat]?) = ((List.range xs.size).map fun k => xs.size - 1 - k).filterMap fun k => xs[k]? := by
    rw [List.filterMap_map]
    refine cg _ _ _ fun k hk => ?_
    have hk := List.mem_range.mp hk
    have : (((xs.size : Int) - 1) + (k : Int) * (-1)).toNat = xs.size - 1 - k := by omega
    show xs[_]? = xs[_]?
    rw [this]
  rw [e, PySem.W.krv_range, List.filterMap_reverse, PySem.W.krv_all]
theorem getItem_tuple_rev {t sl : Addr} {items : Array Value} {vl vu vs : Value} {Q : Value → Shared → Prop} (ht : IsTup s.heap t items) (hs : s.heap.IsSliceOf sl vl vu vs) (pl : IsPart vl none) (pu : IsPart vu none) (ps : IsPart vs (some (-1)))
    (h : Q (.ref s.heap.objs.size) { s with heap := s.heap.push { cls := .type "tuple", data := .seq items.toList.reverse.toArray } })
    (hsz : items.size ≤ sizeLine) : wpAny (model prog w) A (getItem (.ref t) (.ref sl)) Q E s := by
  have htake : sizeOk (.seq items.toList.reverse.toArray) := by
    show items.toList.reverse.toArray.size ≤ sizeLine
    simpa using hsz
  obtain ⟨os, hos, hcs, hds⟩ := id hs
  have hTs : s.TypeIs (.ref sl) "slice" := ⟨os, hos, hcs⟩
  unfold getItem
  try with_reducible refine wpAny_holding ?_
  first | refine wpAny_bind (wpAny_pure ?_) | skip
  refine wpAny_bind (wpAny_sequenceKey ht.typeIs (by decide) ?_)
  refine wpAny_bind (wpAny_callSpecial?_slot (name := Str.ofString "__getitem__") ht.typeIs PyProof.Rows.slot_tuple_getitem
    (wpAny_call_entry PyProof.Rows.slot_tuple_getitem ht.typeIs PyProof.Rows.entry_tuple_getitem ?_ (PyProof.Rows.args_tuple_getitem _ _)))
  show wpAny _ _ (Builtin.Tuple.tupleItemsOf (.ref t) >>= _) _ _ s
  refine wpAny_bind (tupleItemsOf_ ht ?_)
  refine wpAny_bind (wpAny_typeOf hTs ?_)
  rw [if_pos (by decide)]
  refine wpAny_bind (applied_rev hs pl pu ps ?_)
  have hno : ¬ ((((items.size : Int) - 1) == 0 && (-1 : Int) == 1 && items.size == items.size) = true) := by
    intro q
    rw [Bool.and_eq_true, Bool.and_eq_true] at q
    have q1 : (-1 : Int) = 1 := eq_of_beq q.1.2
    omega
  show wpAny _ _ (if (((items.size : Int) - 1) == 0 && (-1 : Int) == 1 && items.size == items.size) = true then _ else _) _ _ s
  rw [if_neg hno, pick_rev]
  first
    | exact wpAny_bind (m := Builtin.Tuple.tupleExact _) (wpAny_newObj_type (wpAny_pure ⟨_, rfl, wpAny_pure h⟩) htake)
    | exact wpAny_bind (m := Builtin.Tuple.tupleExact _) (wpAny_newObj_type (wpAny_bind (wpAny_pure (wpAny_pure ⟨_, rfl, wpAny_pure h⟩))) htake)
    | exact wpAny_bind (wpAny_bind (m := Builtin.Tuple.tupleExact _) (wpAny_newObj_type (wpAny_pure (wpAny_pure ⟨_, rfl, wpAny_pure h⟩)) htake))
    | exact wpAny_bind (wpAny_bind (m := Builtin.Tuple.tupleExact _) (wpAny_newObj_type (wpAny_pure ⟨_, rfl, wpAny_pure h⟩) htake))
end
def tRevB (K : PySem.W.Frag) (te : TE) : TE := fun σ H Q => te σ H fun x H1 => ∃ b a xs, x = .ref a ∧ SqB b K H1 a xs ∧ ∀ p, H1 p = none → Q (.ref p) (upd H1 p (if b then .tup xs.reverse else .lst xs.reverse))
theorem pe_revB {X : Cx} {e : Expr} {te : TE} {k : Nat} {p1 p2 p3 pos : Pos} (he : PE X e te) : PE X (.Subscript e (.Slice none none (some (.UnaryOp .USub (.Constant (.int 1) k p1) p2)) p3) pos) (tRevB X.K te) := by
  refine ⟨fun pins s σ H Q I h => ?_⟩
  refine Subscript_ (thn (he.run pins s σ H _ I h) fun v s1 ⟨x, H1, I1, r1, q1⟩ => ?_)
  obtain ⟨b, a, xs, ex, hx, q⟩ := q1
  subst ex
  cases r1
  have hst : PO X (some (.UnaryOp .USub (.Constant (.int 1) k p1) p2)) (tPart (tUn (rU fun i => .int (-i)) (tC (.int 1)))) := po_some (pe_un un_neg pe_int)
  refine wpAny_Slice (thn (po_none.run pins s1 σ H1 (fun o H2 => o = none ∧ H2 = H1) I1 ⟨rfl, rfl⟩) fun vl s2 ⟨l, H2, I2, pl, el, e2⟩ => ?_)
  subst el e2
  refine thn (po_none.run pins s2 σ H2 (fun o H3 => o = none ∧ H3 = H2) I2 ⟨rfl, rfl⟩) fun vu s3 ⟨u, H3, I3, pu, eu, e3⟩ => ?_
  subst eu e3
  refine thn (hst.run pins s3 σ H3 (fun o H4 => o = some (-1) ∧ H4 = H3) I3 ⟨1, rfl, -1, rfl, rfl, rfl⟩) fun vs s4 ⟨o, H4, I4, ps, eo, e4⟩ => ?_
  subst eo e4
  have I5 : Inv X pins σ H4 { s4 with heap := s4.heap.push { cls := .type "slice", data := .fields #[vl, vu, vs] } } := I4.kept (t' := s4.toks) fun b ob q => Heap.get?_push_of_some _ q
  show wpAny (model X.prog X.w) X.A (subscriptTail e (.Slice none none (some (.UnaryOp .USub (.Constant (.int 1) k p1) p2)) p3) (.ref a) (.ref s4.heap.objs.size)) (EP X pins σ Q) X.xe { s4 with heap := s4.heap.push { cls := .type "slice", data := .fields #[vl, vu, vs] } }
  cases b
  · obtain ⟨its, r, ht, hz⟩ := I5.list hx
    have hlen := r.length
    refine tail_any (ops := [.ref a, .ref s4.heap.objs.size]) ht.isList.typeIs (PySem.slot_list_getitem.lookup) ?_ (by with_unfolding_all rfl)
    refine wpAny_getItem_list_slice ht.isList (Heap.IsSliceOf.new _ vl vu vs) pl pu ps (by decide) ?_ (by rw [List.size_toArray]; omega)
    rw [PySem.W.krv_pick]
    refine ⟨.ref _, _, I5.laid (t' := s4.toks) (o := .lst xs.reverse) (fun b ob q => Heap.get?_push_of_some _ q) (Nat.le_refl _) ?_, rfl, q _ (I5.hok.fresh (Nat.le_refl _))⟩
    exact ⟨by rw [List.length_reverse]; exact hz, _, 0, r.reverse, Heap.get?_push_size _ rfl⟩
  · obtain ⟨its, r, ht, hz⟩ := I5.tuple hx
    have hlen := r.length
    refine tail_any (ops := [.ref a, .ref s4.heap.objs.size]) ht.typeIs (PyProof.Rows.slot_tuple_getitem.lookup) ?_ (by with_unfolding_all rfl)
    refine getItem_tuple_rev ht (Heap.IsSliceOf.new _ vl vu vs) pl pu ps ?_ (by rw [List.size_toArray]; omega)
    refine ⟨.ref _, _, I5.laid (t' := s4.toks) (o := .tup xs.reverse) (fun b ob q => Heap.get?_push_of_some _ q) (Nat.le_refl _) ?_, rfl, q _ (I5.hok.fresh (Nat.le_refl _))⟩
    exact ⟨by rw [List.length_reverse]; exact hz, _, r.reverse, IsTup.new _ _⟩
end Rk

set_option maxHeartbeats 4000000
namespace Rk
open PySem PySem.Spec PyProof.Rows L2
section
variable {X : Cx} {σ : L2.St} {H : Hp} {s : Shared} {pins : List (Addr × Obj)} {k : Nat} {f : Addr} {fd : FuncData} {ps : List Str} {sp : Sp} {x : Str} {p pos : Pos} {e : Expr} {es : List Expr} {t : TA} {W : WX}
/-- the callee runs, no guard around -/
theorem run_fnG {Q : VK} {E : XK} {us : List Value} {vs : List V} (F : FnG X.prog X.w X.K X.mg X.base k f fd ps sp) (hr : Room k X.A) (hg : X.A.guards = some []) (hb : Binds X.K fd ps []) (hx : PassesAt (L2.CX X.prog X.w) X σ E)
    (I : Inv X pins σ H s) (r : Vals vs us) (h : sp vs H Q E) : wpAny (model X.prog X.w) X.A (call (.ref f) us) (EP X pins σ Q) X.xe s := by
  have hl : (us ++ []).length = ps.length := by
    rw [List.append_nil, ← r.length]
    exact F.len _ _ _ _ h
  have b := hb s us I.kIn hl
  rw [List.append_nil] at b
  refine wpAny_call (codeAny_mono (F.run X.A X.stack s H ⟨us, []⟩ us vs Q E hr hg I.env0 b r h) fun o s' hq => ?_)
  match o, hq with
  | .error e, hq => exact hx pins H s e s' I hq
  | .ok (.ret u), hq => exact I.after hq
def tCallG (sp : Sp) (W : WX) (t : TA) : TE := fun σ H Q => t σ H fun vs H1 => sp vs H1 Q (fun cls d H' => W cls d σ H')
theorem pe_callG0 (F : FnG X.prog X.w X.K X.mg X.base k f fd ps sp) (hr : Room k X.A) (hgd : X.A.guards = some []) (hg : Gl X x) (hm : X.mg x = some (.ref f)) (hk : PySem.W.keepIn X.K (.ref f) = true) (hb : Binds X.K fd ps []) (tk : Takes X W)
    (hdb : (x == ("__debug__" : Str)) = false) : PE X (.Call (.Name x p) [] [] pos) (fun σ H Q => sp [] H Q (fun cls d H' => W cls d σ H')) := by
  refine ⟨fun pins s σ H Q I h => wpAny_Call_Name_kw (ld_glob I hg hm ?_ hdb)⟩
  exact PySem.W.callWith_K0 I.kIn hk (run_fnG (us := []) F hr hgd hb (passAt tk σ) I .nil h)
theorem pe_callG (F : FnG X.prog X.w X.K X.mg X.base k f fd ps sp) (hr : Room k X.A) (hgd : X.A.guards = some []) (hg : Gl X x) (hm : X.mg x = some (.ref f)) (hk : PySem.W.keepIn X.K (.ref f) = true) (hb : Binds X.K fd ps []) (tk : Takes X W)
    (ha : PA X (e :: es) t) (hdb : (x == ("__debug__" : Str)) = false) (hst : (e :: es).all notStar = true) : PE X (.Call (.Name x p) (e :: es) [] pos) (tCallG sp W t) := by
  refine ⟨fun pins s σ H Q I h => ?_⟩
  refine wpAny_Call_Name_kw (ld_glob I hg hm ?_ hdb)
  have h1 := hst
  simp only [List.all_cons, Bool.and_eq_true] at h1
  refine PySem.W.callWith_K (h₀ := X.base) I.ok.mod.kin hk (thn (ha.run pos pins s σ H _ I h) fun us s1 hq => ?_) (starEach_cons h1.1) (starEach_any (by simpa using h1.2))
  obtain ⟨vs, H1, I1, r, q⟩ := hq
  exact ⟨I1.kIn, run_fnG F hr hgd hb (passAt tk σ) I1 r q⟩
/-- a call of what a name holds -/
def tCallV (X : Cx) (W : WX) (k i : Nat) (t : TA) : TE := fun σ H Q => ∃ f fd ps sp, σ[i]? = some (some (.ref f)) ∧ PySem.W.keepIn X.K (.ref f) = true ∧ Binds X.K fd ps [] ∧ FnG X.prog X.w X.K X.mg X.base k f fd ps sp ∧ t σ H fun vs H1 => sp vs H1 Q (fun cls d H' => W cls d σ H')
theorem pe_callV0 {i : Nat} (hr : Room k X.A) (hgd : X.A.guards = some []) (hN : X.N[i]? = some x) (hv : Vis X.env.scope x) (d1 : (x == ("__debug__" : Str)) = false) (d2 : (x == ("__classdict__" : Str)) = false) (tk : Takes X W) :
    PE X (.Call (.Name x p) [] [] pos) (tCallV X W k i fun _ H L => L [] H) := by
  refine ⟨fun pins s σ H Q I h => ?_⟩
  obtain ⟨f, fd, ps, sp, hs, hk, hb, F, h⟩ := h
  refine wpAny_Call_Name_kw (thn ((pe_var (pos := p) (i := i) hN hv d1 d2).run pins s σ H (fun v H1 => v = .ref f ∧ H1 = H) I ⟨.ref f, hs, rfl, rfl⟩) fun u s1 hu => ?_)
  obtain ⟨v, H1, I1, r1, e1, e2⟩ := hu
  subst e1 e2
  cases (show u = Value.ref f from r1)
  exact PySem.W.callWith_K0 I1.kIn hk (run_fnG (us := []) F hr hgd hb (passAt tk σ) I1 .nil h)
theorem pe_callV {i : Nat} (hr : Room k X.A) (hgd : X.A.guards = some []) (hN : X.N[i]? = some x) (hv : Vis X.env.scope x) (d1 : (x == ("__debug__" : Str)) = false) (d2 : (x == ("__classdict__" : Str)) = false) (tk : Takes X W)
    (ha : PA X (e :: es) t) (hst : (e :: es).all notStar = true) : PE X (.Call (.Name x p) (e :: es) [] pos) (tCallV X W k i t) := by
  refine ⟨fun pins s σ H Q I h => ?_⟩
  obtain ⟨f, fd, ps, sp, hs, hk, hb, F, h⟩ := h
  refine wpAny_Call_Name_kw (thn ((pe_var (pos := p) (i := i) hN hv d1 d2).run pins s σ H (fun v H1 => v = .ref f ∧ H1 = H) I ⟨.ref f, hs, rfl, rfl⟩) fun u s0 hu => ?_)
  obtain ⟨v, H1, I0, r1, e1, e2⟩ := hu
  subst e1 e2
  cases (show u = Value.ref f from r1)
  have h1 := hst
  simp only [List.all_cons, Bool.and_eq_true] at h1
  refine PySem.W.callWith_K I0.ok.mod.kin hk (thn (ha.run pos pins s0 σ _ _ I0 h) fun us s1 hq => ?_) (starEach_cons h1.1) (starEach_any (by simpa using h1.2))
  obtain ⟨vs, H1, I1, r, q⟩ := hq
  exact ⟨I1.kIn, run_fnG F hr hgd hb (passAt tk σ) I1 r q⟩
end
section
variable {n : Nms} {S : Sig} {C : Cfg} {g0 g g' : Gh} {H0 H H' : Hp} {X : Cx} {W : WX} {ρ : Env'} {σ : L2.St} {a b c as lo hi : Ex}
theorem snd_call (A : At n S C X W) (T : Tie n S C g0 H0 X W) (j : Nat) (ia : Snd n S C g0 H0 X W as) : Snd n S C g0 H0 X W (.call j as) :=
  Snd.ofE A rfl rfl (fun ρ Q Q' E E' hq he h => (den_mono S (.call j as)).e hq he h) rfl fun e q => by
    split at q
    · rename_i x px es pos
      simp only [Bool.and_eq_true, decide_eq_true_eq] at q
      obtain ⟨⟨⟨q1, q2⟩, q3⟩, q4⟩ := q
      obtain ⟨hg, ok⟩ := glo_Gl q2
      obtain ⟨k, L, hr⟩ := A.lib
      have hr := (hr (cold_hot q4)).mono (Nat.le_add_right k _)
      have cd := T.cold q4
      obtain ⟨f, fd, ps, hm, hf, hk, hb, hl, F⟩ := L.fns j x q1
      rw [← A.K] at hk hb F
      have core : ∀ {g : Gh} {ρ : Env'} {σ : L2.St} {H g1 H1} {Q : VK} {pvs : List PV} {vs : List V}, Step C g H g1 H1 → Rel C g0 H0 g1 H1 ρ σ → RPs C g1 pvs vs →
          (S.Φ j).run pvs (fun p => ∀ g' H' v, Step C g H g' H' → RP C g' p v → Q v H') (XW C g H W σ) → spOf C (S.Φ j) vs H1 Q (fun cls d H' => W cls d σ H') := fun s1 rel1 rp h =>
        ⟨_, _, ⟨rel1.step.E.trans cd.1, rel1.step.F.trans cd.2⟩, rel1.w, rp, (S.Φ j).mono _ _ _ _ _ (fun p z g' H' v s r => z g' H' v (s1.trans s) r) (fun x z g' H' cls d s r => z g' H' cls d (s1.trans s) r) h⟩
      cases es with
      | nil =>
        have e := args_nil q3
        subst e
        refine ⟨pe_weak (pe_callG0 F hr A.gd hg hm hk hb A.tk (okName_db ok).1) fun σ H Q h => ?_, rfl⟩
        obtain ⟨g, ρ, rel, h⟩ := h
        exact core (Step.refl rel.w) rel RPs.nil h
      | cons y es =>
        obtain ⟨hs, ha⟩ := ia.a _ q3
        refine ⟨pe_weak (pe_callG F hr A.gd hg hm hk hb A.tk ha (okName_db ok).1 hs) fun σ H Q h => ?_, rfl⟩
        obtain ⟨g, ρ, rel, h⟩ := h
        exact tA_in (den_mono S as) rel h (fun ps g1 H1 vs s1 rel1 rp h => core s1 rel1 rp h) fun x z => z
    · cases q
theorem snd_callv (A : At n S C X W) (T : Tie n S C g0 H0 X W) (i m : Nat) (ia : Snd n S C g0 H0 X W as) : Snd n S C g0 H0 X W (.callv i m as) :=
  Snd.ofE A rfl rfl (fun ρ Q Q' E E' hq he h => (den_mono S (.callv i m as)).e hq he h) rfl fun e q => by
    split at q
    · rename_i x px es pos
      simp only [Bool.and_eq_true, decide_eq_true_eq] at q
      obtain ⟨⟨⟨⟨⟨q1, q2⟩, q3⟩, q4⟩, q5⟩, q6⟩ := q
      obtain ⟨d1, d2, _⟩ := okName_db q3
      obtain ⟨k, L, hr⟩ := A.lib
      have hr := (hr (cold_hot q4)).mono (Nat.le_add_right k _)
      have cd := T.cold q4
      have hN : X.N[i]? = some x := by rw [A.N]; exact q1
      have fns : ∀ {j : Nat}, j < m → ∃ f fd ps, C.fa j = some f ∧ PySem.W.keepIn X.K (.ref f) = true ∧ Binds X.K fd ps [] ∧ FnG X.prog X.w X.K X.mg X.base k f fd ps (spOf C (S.Φ j)) := fun {j} hj => by
        have z := List.all_eq_true.mp q5 j (List.mem_range.mpr hj)
        obtain ⟨x', hx⟩ := Option.isSome_iff_exists.mp z
        obtain ⟨f, fd, ps, hm, hf, hk, hb, hl, F⟩ := L.fns j x' hx
        rw [← A.K] at hk hb F
        exact ⟨f, fd, ps, hf, hk, hb, F⟩
      have core : ∀ {j : Nat} {g : Gh} {ρ : Env'} {σ : L2.St} {H g1 H1} {Q : VK} {pvs : List PV} {vs : List V}, Step C g H g1 H1 → Rel C g0 H0 g1 H1 ρ σ → RPs C g1 pvs vs →
          (S.Φ j).run pvs (fun p => ∀ g' H' v, Step C g H g' H' → RP C g' p v → Q v H') (XW C g H W σ) → spOf C (S.Φ j) vs H1 Q (fun cls d H' => W cls d σ H') := fun s1 rel1 rp h =>
        ⟨_, _, ⟨rel1.step.E.trans cd.1, rel1.step.F.trans cd.2⟩, rel1.w, rp, (S.Φ _).mono _ _ _ _ _ (fun p z g' H' v s r => z g' H' v (s1.trans s) r) (fun x z g' H' cls d s r => z g' H' cls d (s1.trans s) r) h⟩
      cases es with
      | nil =>
        have e := args_nil q6
        subst e
        refine ⟨pe_weak (pe_callV0 hr A.gd hN (vis_Vis q2) d1 d2 A.tk) fun σ H Q h => ?_, rfl⟩
        obtain ⟨g, ρ, rel, h⟩ := h
        obtain ⟨p, e, h⟩ := varW_at h
        obtain ⟨v, e2, rv⟩ := rel.var e
        cases p <;> first | exact h.elim | skip
        obtain ⟨f', hf', rfl⟩ := rv
        obtain ⟨hj, h⟩ := h
        obtain ⟨f, fd, ps, hf, hk, hb, F⟩ := fns hj
        rw [hf] at hf'
        cases hf'
        exact ⟨_, fd, ps, _, e2, hk, hb, F, core (Step.refl rel.w) rel RPs.nil h⟩
      | cons y es =>
        obtain ⟨hs, ha⟩ := ia.a _ q6
        refine ⟨pe_weak (pe_callV hr A.gd hN (vis_Vis q2) d1 d2 A.tk ha hs) fun σ H Q h => ?_, rfl⟩
        obtain ⟨g, ρ, rel, h⟩ := h
        obtain ⟨p, e, h⟩ := varW_at h
        obtain ⟨v, e2, rv⟩ := rel.var e
        cases p <;> first | exact h.elim | skip
        obtain ⟨f', hf', rfl⟩ := rv
        obtain ⟨hj, h⟩ := h
        obtain ⟨f, fd, ps, hf, hk, hb, F⟩ := fns hj
        rw [hf] at hf'
        cases hf'
        exact ⟨_, fd, ps, _, e2, hk, hb, F, tA_in (den_mono S as) rel h (fun ps g1 H1 vs s1 rel1 rp h => core s1 rel1 rp h) fun x z => z⟩
    · cases q
theorem snd_blt (A : At n S C X W) (f : Blt) (ia : Snd n S C g0 H0 X W as) : Snd n S C g0 H0 X W (.blt f as) :=
  Snd.ofN A rfl rfl (fun ρ Q Q' E E' hq he h => (den_mono S (.blt f as)).e hq he h) rfl fun e q => by
    split at q
    · rename_i x px y es pos
      simp only [Bool.and_eq_true, decide_eq_true_eq] at q
      obtain ⟨⟨⟨q1, q2⟩, q3⟩, q4⟩ := q
      obtain ⟨hg, ok⟩ := glo_Gl q2
      obtain ⟨r, hr, hx⟩ := blt_ok (X := X) A.K (A.calm (by simpa using q4)) A.gd A.hu f
      have hs := (ia.a _ q3).1
      have hs1 := hs
      simp only [List.all_cons, Bool.and_eq_true] at hs1
      have hpe : PE X (.Call (.Name x px) (y :: es) [] pos) (tCB r (tB C g0 H0 W (den S as).b)) := by
        subst q1
        cases f <;> first
          | exact pe_callB hr hg (A.mgb (by decide)) (by decide +kernel) (ia.b _ q3) (hn := (okName_db ok).2.2) (hdb := (okName_db ok).1) (he := starEach_cons hs1.1) (hpl := starEach_any (by simpa using hs1.2))
          | exact pe_callTy hr hg (A.mgb (by decide)) (by decide +kernel) (ia.b _ q3) (hn := (okName_db ok).2.2) (hdb := (okName_db ok).1) (he := starEach_cons hs1.1) (hpl := starEach_any (by simpa using hs1.2))
      refine ⟨pe_weak hpe fun σ H Q h => ?_, rfl⟩
      obtain ⟨g, ρ, rel, h⟩ := h
      exact tB_in (den_mono S as) rel h (fun ps g1 H1 vs s1 rel1 rp h => hx g1 H1 ps vs Q s1.w rp (bltW_mono (fun _ z => z.go s1) h)) fun x z => z
    · cases q
theorem snd_idx (A : At n S C X W) (ia : Snd n S C g0 H0 X W a) (ib : Snd n S C g0 H0 X W b) : Snd n S C g0 H0 X W (.idx a b) :=
  Snd.ofE A rfl rfl (fun ρ Q Q' E E' hq he h => (den_mono S (.idx a b)).e hq he h) rfl fun e q => by
    split at q
    · simp only [Bool.and_eq_true] at q
      obtain ⟨r, hr, hx⟩ := idx_ok (X := X) A.hu A.K
      refine ⟨pe_weak (pe_ix hr (ia.o _ q.1) (ib.e _ q.2) (plainIx_of (ib.st _ q.2).2.2)) fun σ H Q h => ?_, rfl⟩
      obtain ⟨g, ρ, rel, h⟩ := h
      exact tO_in (den_mono S a) rel h (fun p g1 H1 v s1 rel1 rp1 h1 => tE_in (den_mono S b) rel1 h1 (fun q g2 H2 u s2 rel2 rp2 h2 => hx g2 H2 p q v u Q s2.w (rp1.go s2) rp2 (idxW_mono (fun w z v r => z g2 H2 v (s1.trans s2) r) h2)) fun x z => z.go s1) fun x z => z
    · cases q
theorem findIdx_at {α : Type} {f : α → Bool} : ∀ {xs : List α} {j : Nat}, xs.findIdx? f = some j → ∃ x, xs[j]? = some x ∧ f x = true ∧ ∀ (m : Nat) y, m < j → xs[m]? = some y → f y = false
  | [], j, h => by simp at h
  | x :: xs, j, h => by
    rw [List.findIdx?_cons] at h
    split at h
    · rename_i hx
      cases h
      exact ⟨x, rfl, hx, fun m y hm => by omega⟩
    · rename_i hx
      cases e : xs.findIdx? f with
      | none =>
        rw [e] at h
        cases h
      | some i =>
        rw [e] at h
        cases h
        obtain ⟨y, h1, h2, h3⟩ := findIdx_at e
        refine ⟨y, by simpa using h1, h2, fun m z hm hz => ?_⟩
        cases m with
        | zero =>
          cases hz
          simpa using hx
        | succ m =>
          have hm : m + 1 < i + 1 := hm
          exact h3 m z (by omega) (by simpa using hz)
theorem snd_lix (A : At n S C X W) (ia : Snd n S C g0 H0 X W a) (ib : Snd n S C g0 H0 X W b) : Snd n S C g0 H0 X W (.lix a b) :=
  Snd.ofE A rfl rfl (fun ρ Q Q' E E' hq he h => (den_mono S (.lix a b)).e hq he h) rfl fun e q => by
    split at q
    · rename_i x m ap y cp
      simp only [Bool.and_eq_true, decide_eq_true_eq] at q
      obtain ⟨⟨⟨⟨q1, q2⟩, q3⟩, q4⟩, q5⟩ := q
      subst q1
      have hb : attributeBase x "index" X.env (eval x X.env) = eval x X.env := by
        cases x <;> first | rfl | (cases q3; done)
      have ns := (ib.st y q5).1
      refine ⟨pe_weak (pe_bm PySem.F.plainAttrs_list PySem.F.slot_list_index PySem.F.type_list_index mt_index (ia.o x q4) (pa_cons (ib.e y q5) pa_nil (starEach_cons ns)) hb ?_ q2 (starEach_cons ns) rfl) fun σ H Q h => ?_, rfl⟩
      · rw [starEach_cons ns]
        rfl
      · obtain ⟨g, ρ, rel, h⟩ := h
        refine tO_in (den_mono S a) rel h (fun p g1 H1 v s1 rel1 rp1 h1 => ?_) fun x z => z
        cases p <;> first | exact h1.elim | skip
        rename_i xs
        obtain ⟨l, vs, rfl, e2, r2⟩ := rp1.lst s1.w
        refine ⟨.inl ⟨rfl, vs, SqL.of e2⟩, ?_⟩
        refine tE_in (den_mono S b) rel1 h1 (fun q g2 H2 u s2 rel2 rp2 h2 => ?_) fun x z => z.go s1
        obtain ⟨f1, f2, h2⟩ := h2
        obtain ⟨j, ej, h2⟩ := onSome_elim h2
        obtain ⟨l', vs', e, e3, r3⟩ := (rp1.go s2).lst s2.w
        cases e
        obtain ⟨z, z1, z2, z3⟩ := findIdx_at ej
        have ev := RPs.flat f2 r3
        subst ev
        have fz : ∀ {m : Nat} {y : PV}, xs[m]? = some y → y.flat = true := fun {m y} hy => List.all_eq_true.mp f2 y (List.mem_of_getElem? hy)
        refine ⟨l, _, flatOf q, j, flatOf z, rfl, by rw [RP.flat f1 rp2], SqL.of e3, flatV_of f1, all_flatV f2, by rw [List.getElem?_map, z1]; rfl, by rw [eqV_of (fz z1) f1]; exact z2, fun m z' hm hz => ?_, h2 g2 H2 _ (s1.trans s2) rfl⟩
        rw [List.getElem?_map] at hz
        cases e4 : xs[m]? with
        | none =>
          rw [e4] at hz
          cases hz
        | some y =>
          rw [e4] at hz
          cases hz
          rw [eqV_of (fz e4) f1]
          exact z3 m y hm e4
    · cases q
theorem snd_slc (A : At n S C X W) (ia : Snd n S C g0 H0 X W a) (il : Snd n S C g0 H0 X W lo) (ih : Snd n S C g0 H0 X W hi) : Snd n S C g0 H0 X W (.slc a lo hi) :=
  Snd.ofN A rfl rfl (fun ρ Q Q' E E' hq he h => (den_mono S (.slc a lo hi)).e hq he h) rfl fun e q => by
    split at q
    · simp only [Bool.and_eq_true] at q
      obtain ⟨⟨q1, q2⟩, q3⟩ := q
      obtain ⟨r, hr, hx⟩ := slc_ok (X := X) A.K
      refine ⟨pe_weak (pe_slice hr (ia.o _ q1) (il.p _ q2) (ih.p _ q3)) fun σ H Q h => ?_, rfl⟩
      obtain ⟨g, ρ, rel, h⟩ := h
      refine tO_in (den_mono S a) rel h (fun p g1 H1 v s1 rel1 rp1 h1 => ?_) fun x z => z
      refine ⟨g1, ρ, rel1, (den_mono S lo).a (fun l hl => partW_mono (fun i z g2 H2 s2 => ?_) hl) (fun x z => z.go s1) h1⟩
      refine ⟨g2, ρ, rel1.go s2, (den_mono S hi).a (fun l hl => partW_mono (fun j z g3 H3 s3 => ?_) hl) (fun x z => z.go (s1.trans s2)) z⟩
      exact hx g3 H3 p v i j Q s3.w ((rp1.go s2).go s3) (slcW_mono (fun _ z => z.go ((s1.trans s2).trans s3)) z)
    · cases q
theorem snd_rev (A : At n S C X W) (ia : Snd n S C g0 H0 X W a) : Snd n S C g0 H0 X W (.rev a) :=
  Snd.ofN A rfl rfl (fun ρ Q Q' E E' hq he h => (den_mono S (.rev a)).e hq he h) rfl fun e q => by
    split at q
    · simp only [Bool.and_eq_true, decide_eq_true_eq] at q
      obtain ⟨q1, q2⟩ := q
      subst q1
      refine ⟨pe_weak (pe_revB (ia.o _ q2)) fun σ H Q h => ?_, rfl⟩
      obtain ⟨g, ρ, rel, h⟩ := h
      refine tO_in (den_mono S a) rel h (fun p g1 H1 v s1 rel1 rp1 h1 => ?_) fun x z => z
      cases p <;> first | exact h1.elim | skip
      · obtain ⟨a, vs, e, t, s⟩ := rp1.tup s1.w
        have h1 : Out C g H Q (.tup _) := h1
        exact ⟨true, a, vs, e, by rw [A.K]; exact t, (h1.go s1).tup s1.w s.rev⟩
      · obtain ⟨a, vs, e, t, s⟩ := rp1.lst s1.w
        have h1 : Out C g H Q (.lst _) := h1
        exact ⟨false, a, vs, e, SqL.of t, (h1.go s1).lst s1.w s.rev⟩
    · cases q

/-! ### isinstance -/
def tyS : Ty → String
  | .int => "int"
  | .bool => "bool"
  | .str => "str"
  | .tuple => "tuple"
  | .list => "list"
  | .dict => "dict"
theorem ty_of (hK : X.K = C.K) (w : W0 C g H) {p : PV} {v : V} (hp : p.known = true) (r : RPo C g H p v) : ∃ T : String, TyX X.K H v (.type T) ∧ ∀ ty : Ty, kitB T (tyS ty) = some (p.isTy ty) := by
  cases p <;> first | (simp only [PV.known, Bool.false_eq_true] at hp; done) | skip
  · rw [r.non]
    exact ⟨_, .base .non, fun ty => by cases ty <;> decide +kernel⟩
  · rw [r.bl]
    exact ⟨_, .base (.bl _), fun ty => by cases ty <;> first | (simp only [PV.isTy]; decide +kernel)⟩
  · rw [r.int]
    exact ⟨_, .base (.int _), fun ty => by cases ty <;> first | (simp only [PV.isTy]; decide +kernel)⟩
  · rw [r.str]
    exact ⟨_, .base (.str _), fun ty => by cases ty <;> first | (simp only [PV.isTy]; decide +kernel)⟩
  · obtain ⟨a, vs, e, t, s⟩ := r.tup w
    rw [e]
    have hk : ∀ ty : Ty, kitB "tuple" (tyS ty) = some (PV.isTy (.tup []) ty) := fun ty => by cases ty <;> decide +kernel
    refine ⟨"tuple", ?_, fun ty => by rw [hk ty]; cases ty <;> rfl⟩
    rcases t with (t | ⟨o, t⟩) | ⟨o, its, m, t1, t2, _⟩
    · exact .base (.tup t)
    · exact .fTuple t
    · exact .kTuple (hK ▸ t1) t2
  · obtain ⟨a, vs, e, t, s⟩ := r.lst w
    rw [e]
    have hk : ∀ ty : Ty, kitB "list" (tyS ty) = some (PV.isTy (.lst []) ty) := fun ty => by cases ty <;> decide +kernel
    exact ⟨"list", .base (.lst t), fun ty => by rw [hk ty]; cases ty <;> rfl⟩
  · obtain ⟨a, vs, e, t, s⟩ := r.dct w
    rw [e]
    have hk : ∀ ty : Ty, kitB "dict" (tyS ty) = some (PV.isTy (.dct []) ty) := fun ty => by cases ty <;> decide +kernel
    rcases t with t | ⟨o, t⟩
    · exact ⟨"dict", .base (.dK t), fun ty => by rw [hk ty]; cases ty <;> rfl⟩
    · exact ⟨"dict", .fDict t, fun ty => by rw [hk ty]; cases ty <;> rfl⟩
theorem kitAny_of {K : PySem.W.Frag} {T : String} {q : Ty → Bool} (h : ∀ ty, kitB T (tyS ty) = some (q ty)) : ∀ ts : List Ty, PySem.W.kitAny K (.type T) (ts.map fun ty => .type (tyS ty)) = some (ts.any q)
  | [] => kitAny_nil
  | t :: ts => by
    refine kitAny_cons (kit_ty (h t)) (fun e => ?_) fun e => ?_
    · rw [kitAny_of h ts]
      simp [e]
    · simp [e]
theorem pe_ty (A : At n S C X W) (t : Ty) {x : Str} {pos : Pos} (hx : x = tyN t) (h2 : glo X.env.scope x = true) : PE X (.Name x pos) (tC (.ty (tyS t))) := by
  obtain ⟨hg, ok⟩ := glo_Gl h2
  subst hx
  cases t <;> exact pe_bltn hg (A.mgb (by decide)) (by decide +kernel) rfl (okName_db ok).2.2 (okName_db ok).1
theorem pa_tys (A : At n S C X W) : ∀ (ts : List Ty) (es : List Expr), tysOk X.env.scope ts es = true → PA X es (fun _ H Q => Q (ts.map fun ty => V.ty (tyS ty)) H)
  | [], [], _ => pa_nil
  | [], _ :: _, h => by simp only [tysOk, Bool.false_eq_true] at h
  | t :: ts, [], h => by simp only [tysOk, Bool.false_eq_true] at h
  | t :: ts, e :: es, h => by
    cases e <;> try (simp only [tysOk, Bool.false_eq_true] at h; done)
    simp only [tysOk, Bool.and_eq_true, decide_eq_true_eq] at h
    exact pa_cons (pe_ty A t h.1.1 h.1.2) (pa_tys A ts es h.2)
theorem clsV_tys : ∀ ts : List Ty, Paired ClsV (ts.map fun ty => V.ty (tyS ty)) (ts.map fun ty => Value.type (tyS ty))
  | [] => .nil
  | t :: ts => .cons (.ty _) (clsV_tys ts)
theorem snd_isi (A : At n S C X W) (ts : List Ty) (ia : Snd n S C g0 H0 X W a) : Snd n S C g0 H0 X W (.isi a ts) :=
  Snd.ofE A rfl rfl (fun ρ Q Q' E E' hq he h => (den_mono S (.isi a ts)).e hq he h) rfl fun e q => by
    split at q
    · rename_i x px y z pos
      simp only [Bool.and_eq_true, decide_eq_true_eq] at q
      obtain ⟨⟨⟨hx, hgl⟩, hy⟩, hz⟩ := q
      obtain ⟨hg, ok⟩ := glo_Gl hgl
      have hs1 := (ia.st y hy).1
      have hm := A.mgb (b := x) (by rw [hx]; decide)
      have hv : bootBuiltins x = some (.builtin "isinstance") := by rw [hx]; decide +kernel
      refine ⟨?_, rfl⟩
      unfold isiOk at hz
      split at hz
      · -- one type
        rename_i t pt
        split at hz
        · rename_i ty
          simp only [Bool.and_eq_true, decide_eq_true_eq] at hz
          refine pe_weak (pe_callB (call_isi.or call_isiT) hg hm hv (pa_cons (ia.o y hy) (pa_cons (pe_ty A ty hz.1 hz.2) pa_nil) (starEach_cons hs1)) (hn := (okName_db ok).2.2) (hdb := (okName_db ok).1) (he := starEach_cons hs1) (hpl := rfl)) fun σ H Q h => ?_
          obtain ⟨g, ρ, rel, h⟩ := h
          refine tO_in (den_mono S a) rel h (fun p g1 H1 v s1 rel1 rp1 h1 => ?_) fun x z => z
          obtain ⟨T, h2, h3⟩ := ty_of A.K s1.w h1.1 rp1
          refine .inl ⟨v, _, _, _, _, rfl, .ty _, h2, kit_ty (h3 ty), ?_⟩
          have h4 := h1.2 g1 H1 (.bl (List.any [ty] p.isTy)) s1 rfl
          simpa using h4
        · cases hz
      · -- a tuple of types
        rename_i es kk pt
        simp only [Bool.and_eq_true, decide_eq_true_eq] at hz
        obtain ⟨hz0, hz⟩ := hz
        have ht := pe_tup (x1 := kk) (pos := pt) (pa_tys A ts es hz)
        refine pe_weak (pe_callB (call_isi.or call_isiT) hg hm hv (pa_cons (ia.o y hy) (pa_cons ht pa_nil) (starEach_cons hs1)) (hn := (okName_db ok).2.2) (hdb := (okName_db ok).1) (he := starEach_cons hs1) (hpl := rfl)) fun σ H Q h => ?_
        obtain ⟨g, ρ, rel, h⟩ := h
        refine tO_in (den_mono S a) rel h (fun p g1 H1 v s1 rel1 rp1 h1 => ⟨?_, fun tp np => ?_⟩) fun x z => z
        · rw [List.length_map]
          exact Nat.le_trans hz0 (by decide)
        · have s2 := Step.lay (o := .tup (ts.map fun ty => V.ty (tyS ty))) s1.w np
          obtain ⟨T, h2, h3⟩ := ty_of A.K s2.w h1.1 (rp1.go s2)
          exact .inr ⟨v, tp, _, _, _, _, rfl, upd_same, clsV_tys ts, h2, kitAny_of h3 ts, h1.2 g1 _ (.bl (ts.any p.isTy)) (s1.trans s2) rfl⟩
      · cases hz
    · cases q

/-! ### what is walked -/
theorem snd_rng1 (A : At n S C X W) (ia : Snd n S C g0 H0 X W a) : Snd n S C g0 H0 X W (.rng1 a) := by
  have core : ∀ e tg, (match e with
      | .Call (.Name x _) [y] [] _ => decide (x = "range") && glo X.env.scope x && (chk n a).e X.env.scope y
      | _ => false) = true → ∃ ta, PI X tg e (iRng1 ta) ∧ ∀ (g : Gh) (ρ : Env') (σ : L2.St) (H : Hp) (R : It → Hp → Prop) (L : List PV → Prop), Rel C g0 H0 g H ρ σ → (den S (.rng1 a)).i ρ L (XW C g H W σ) →
        (∀ (j : Int) g1 H1, Step C g H g1 H1 → L (rngL 0 j.toNat) → R (Itr 0 j.toNat) H1) → iRng1 ta σ H R := fun e tg q => by
    split at q
    · rename_i x px y pos
      simp only [Bool.and_eq_true, decide_eq_true_eq] at q
      obtain ⟨⟨hx, hgl⟩, hy⟩ := q
      obtain ⟨hg, ok⟩ := glo_Gl hgl
      subst hx
      have hs := (ia.st y hy).1
      refine ⟨_, pi_range1 hg (A.mgb (by decide)) (pa_cons (ia.e y hy) pa_nil (starEach_cons hs)) (starEach_cons hs), fun g ρ σ H R L rel h hR => ?_⟩
      refine tE_in (den_mono S a) rel h (fun p g1 H1 v s1 rel1 rp1 h1 => ?_) fun x z => z
      cases p <;> first | exact h1.elim | skip
      have rp1 : v = .int _ := rp1
      exact ⟨_, by rw [rp1], h1.1.1, h1.1.2, hR _ g1 H1 s1 h1.2⟩
    · cases q
  refine Snd.ofI rfl rfl (fun e tg q _ => ?_) fun e tg q _ => ?_
  · obtain ⟨ta, h1, h2⟩ := core e tg q
    exact pi_weak h1 fun σ H R ⟨g, ρ, rel, h⟩ => h2 g ρ σ H R (fun items => ∀ (g' : Gh) (H' : Hp) (J : It), Step C g H g' H' → Yl C J g' H' items → R J H') rel h fun j g1 H1 s1 z => z g1 H1 _ s1 fun g2 H2 s2 => yls_rng s2.w
  · obtain ⟨ta, h1, h2⟩ := core e tg q
    exact pi_weak h1 fun σ H R ⟨g, ρ, rel, h⟩ => h2 g ρ σ H R (fun items => ∀ (g' : Gh) (H' : Hp) (J : It), Step C g H g' H' → YlF C J g' items → R J H') rel h fun j g1 H1 s1 z => z g1 H1 _ s1 fun g2 H2 _ w2 => yls_rng w2
theorem snd_rng2 (A : At n S C X W) (ia : Snd n S C g0 H0 X W a) (ib : Snd n S C g0 H0 X W b) : Snd n S C g0 H0 X W (.rng2 a b) := by
  have core : ∀ e tg, (match e with
      | .Call (.Name x _) [y, z] [] _ => decide (x = "range") && glo X.env.scope x && (chk n a).e X.env.scope y && (chk n b).e X.env.scope z
      | _ => false) = true → ∃ ta, PI X tg e (iRng2 ta) ∧ ∀ (g : Gh) (ρ : Env') (σ : L2.St) (H : Hp) (R : It → Hp → Prop) (L : List PV → Prop), Rel C g0 H0 g H ρ σ → (den S (.rng2 a b)).i ρ L (XW C g H W σ) →
        (∀ (i j : Int) g1 H1, Step C g H g1 H1 → L (rngL i (j - i).toNat) → R (Itr i (j - i).toNat) H1) → iRng2 ta σ H R := fun e tg q => by
    split at q
    · rename_i x px y z pos
      simp only [Bool.and_eq_true, decide_eq_true_eq] at q
      obtain ⟨⟨⟨hx, hgl⟩, hy⟩, hz⟩ := q
      obtain ⟨hg, ok⟩ := glo_Gl hgl
      subst hx
      have hs := (ia.st y hy).1
      have hs2 := (ib.st z hz).1
      refine ⟨_, pi_range2 hg (A.mgb (by decide)) (pa_cons (ia.e y hy) (pa_cons (ib.e z hz) pa_nil (starEach_cons hs2)) (starEach_cons hs)) (by rw [starEach_cons hs, starEach_cons hs2]; rfl) (starEach_cons hs2), fun g ρ σ H R L rel h hR => ?_⟩
      refine tE_in (den_mono S a) rel h (fun p g1 H1 v s1 rel1 rp1 h1 => ?_) fun x z => z
      refine tE_in (den_mono S b) rel1 h1 (fun q g2 H2 u s2 rel2 rp2 h2 => ?_) fun x z => z.go s1
      cases p <;> cases q <;> first | exact h2.elim | skip
      have rp1 : v = .int _ := rp1
      have rp2 : u = .int _ := rp2
      exact ⟨_, _, by rw [rp1, rp2], ⟨h2.1.1, h2.1.2, h2.2.1.1, h2.2.1.2⟩, hR _ _ g2 H2 (s1.trans s2) h2.2.2⟩
    · cases q
  refine Snd.ofI rfl rfl (fun e tg q _ => ?_) fun e tg q _ => ?_
  · obtain ⟨ta, h1, h2⟩ := core e tg q
    exact pi_weak h1 fun σ H R ⟨g, ρ, rel, h⟩ => h2 g ρ σ H R (fun items => ∀ (g' : Gh) (H' : Hp) (J : It), Step C g H g' H' → Yl C J g' H' items → R J H') rel h fun i j g1 H1 s1 z => z g1 H1 _ s1 fun g2 H2 s2 => yls_rng s2.w
  · obtain ⟨ta, h1, h2⟩ := core e tg q
    exact pi_weak h1 fun σ H R ⟨g, ρ, rel, h⟩ => h2 g ρ σ H R (fun items => ∀ (g' : Gh) (H' : Hp) (J : It), Step C g H g' H' → YlF C J g' items → R J H') rel h fun i j g1 H1 s1 z => z g1 H1 _ s1 fun g2 H2 _ w2 => yls_rng w2
def seqP : PV → Option (Bool × List PV)
  | .lst xs => some (false, xs)
  | .tup xs => some (true, xs)
  | _ => none
theorem zipW_seq {p q : PV} {Q : List PV → Prop} (h : zipW p q Q) : ∃ b1 xs b2 ys, seqP p = some (b1, xs) ∧ seqP q = some (b2, ys) ∧ Q (zipL xs ys) := by
  cases p <;> cases q <;> first | exact h.elim | exact ⟨_, _, _, _, rfl, rfl, h⟩
theorem RPo.seq {C : Cfg} {g : Gh} {H : Hp} {p : PV} {b : Bool} {xs : List PV} {v : V} (w : W0 C g H) (e : seqP p = some (b, xs)) (h : RPo C g H p v) : ∃ a vs, v = .ref a ∧ SqB b C.K H a vs ∧ RPs C g xs vs := by
  cases p <;> cases e
  · obtain ⟨a, vs, rfl, t, r⟩ := h.tup w
    exact ⟨a, vs, rfl, t, r⟩
  · obtain ⟨a, vs, rfl, t, r⟩ := h.lst w
    exact ⟨a, vs, rfl, SqL.of t, r⟩
theorem RP.seq {C : Cfg} {g : Gh} {H : Hp} {p : PV} {b : Bool} {xs : List PV} {v : V} (w : W0 C g H) (e : seqP p = some (b, xs)) (h : RP C g p v) : ∃ a vs, v = .ref a ∧ SqB b C.K H a vs ∧ RPs C g xs vs := by
  cases p <;> cases e
  · obtain ⟨a, vs, rfl, t, r⟩ := RPo.tup w (H := H) (.inl h)
    exact ⟨a, vs, rfl, t, r⟩
  · obtain ⟨a, vs, rfl, t, r⟩ := h
    exact ⟨a, vs, rfl, SqL.of (w.sub _ _ t), r⟩
theorem snd_zip (A : At n S C X W) (ia : Snd n S C g0 H0 X W a) (ib : Snd n S C g0 H0 X W b) : Snd n S C g0 H0 X W (.zip a b) := by
  refine Snd.ofI rfl rfl (fun e tg q ht => ?_) fun e tg q ht => ?_
  · have ht := ht rfl
    cases tg <;> first | (cases ht; done) | skip
    split at q
    · rename_i x px y z pos
      simp only [Bool.and_eq_true, decide_eq_true_eq] at q
      obtain ⟨⟨⟨hx, hgl⟩, hy⟩, hz⟩ := q
      obtain ⟨hg, ok⟩ := glo_Gl hgl
      subst hx
      have hs := (ia.st y hy).1
      have hs2 := (ib.st z hz).1
      refine pi_weak (pi_zipM hg (A.mgb (by decide)) (pa_cons (ia.o y hy) (pa_cons (ib.o z hz) pa_nil (starEach_cons hs2)) (starEach_cons hs)) (starEach_cons hs) (starEach_any (by simpa using hs2))) fun σ H R h => ?_
      obtain ⟨g, ρ, rel, h⟩ := h
      refine tO_in (den_mono S a) rel h (fun p g1 H1 v s1 rel1 rp1 h1 => ?_) fun x z => z
      refine tO_in (den_mono S b) rel1 h1 (fun q g2 H2 u s2 rel2 rp2 h2 => ?_) fun x z => z.go s1
      have rp1 := rp1.go s2
      obtain ⟨b1, xs, b2, ys, z1, z2, h2⟩ := zipW_seq h2
      obtain ⟨a, vs, rfl, t, r⟩ := rp1.seq s2.w z1
      obtain ⟨b, us, rfl, t', r'⟩ := rp2.seq s2.w z2
      refine ⟨b1, b2, a, b, vs, us, rfl, by rw [A.K]; exact t, by rw [A.K]; exact t', h2 g2 H2 _ (s1.trans s2) fun g3 H3 s3 => ?_⟩
      obtain ⟨a', vs', e, t3, r3⟩ := (RPo.go s3 rp1).seq s3.w z1
      obtain ⟨b', us', e', t4, r4⟩ := (RPo.go s3 rp2).seq s3.w z2
      cases e
      cases e'
      exact yls_zipM (by rw [A.K]; exact t3) (by rw [A.K]; exact t4) s3.w r3 r4
    · cases q
  · have ht := ht rfl
    cases tg <;> first | (cases ht; done) | skip
    split at q
    · rename_i x px y z pos
      simp only [Bool.and_eq_true, decide_eq_true_eq] at q
      obtain ⟨⟨⟨hx, hgl⟩, hy⟩, hz⟩ := q
      obtain ⟨hg, ok⟩ := glo_Gl hgl
      subst hx
      have hs := (ia.st y hy).1
      have hs2 := (ib.st z hz).1
      refine pi_weak (pi_zipM hg (A.mgb (by decide)) (pa_cons (ia.e y hy) (pa_cons (ib.e z hz) pa_nil (starEach_cons hs2)) (starEach_cons hs)) (starEach_cons hs) (starEach_any (by simpa using hs2))) fun σ H R h => ?_
      obtain ⟨g, ρ, rel, h⟩ := h
      refine tE_in (den_mono S a) rel h (fun p g1 H1 v s1 rel1 rp1 h1 => ?_) fun x z => z
      refine tE_in (den_mono S b) rel1 h1 (fun q g2 H2 u s2 rel2 rp2 h2 => ?_) fun x z => z.go s1
      have rp1 := RP.up s2.le _ _ rp1
      obtain ⟨b1, xs, b2, ys, z1, z2, h2⟩ := zipW_seq h2
      obtain ⟨a, vs, rfl, t, r⟩ := RP.seq s2.w z1 rp1
      obtain ⟨b, us, rfl, t', r'⟩ := RP.seq s2.w z2 rp2
      refine ⟨b1, b2, a, b, vs, us, rfl, by rw [A.K]; exact t, by rw [A.K]; exact t', h2 g2 H2 _ (s1.trans s2) fun g3 H3 l w => ?_⟩
      obtain ⟨a', vs', e, t3, r3⟩ := RP.seq w z1 (RP.up l _ _ rp1)
      obtain ⟨b', us', e', t4, r4⟩ := RP.seq w z2 (RP.up l _ _ rp2)
      cases e
      cases e'
      exact yls_zipM (by rw [A.K]; exact t3) (by rw [A.K]; exact t4) w r3 r4
    · cases q
theorem itemsLW_seq {p : PV} {Q : List PV → Prop} (h : itemsLW p Q) : ∃ b xs, seqP p = some (b, xs) ∧ Q xs := by
  cases p <;> first | exact h.elim | exact ⟨_, _, rfl, h⟩
theorem snd_enum (A : At n S C X W) (ia : Snd n S C g0 H0 X W a) : Snd n S C g0 H0 X W (.enum a) := by
  refine Snd.ofI rfl rfl (fun e tg q ht => ?_) fun e tg q ht => ?_
  · have ht := ht rfl
    cases tg <;> first | (cases ht; done) | skip
    split at q
    · rename_i x px y pos
      simp only [Bool.and_eq_true, decide_eq_true_eq] at q
      obtain ⟨⟨hx, hgl⟩, hy⟩ := q
      obtain ⟨hg, ok⟩ := glo_Gl hgl
      subst hx
      have hs := (ia.st y hy).1
      refine pi_weak (pi_enumM hg (A.mgb (by decide)) (pa_cons (ia.o y hy) pa_nil (starEach_cons hs)) (starEach_cons hs)) fun σ H R h => ?_
      obtain ⟨g, ρ, rel, h⟩ := h
      refine tO_in (den_mono S a) rel h (fun p g1 H1 v s1 rel1 rp1 h1 => ?_) fun x z => z
      obtain ⟨b, xs, z1, h1⟩ := itemsLW_seq h1
      obtain ⟨a, vs, rfl, t, r⟩ := rp1.seq s1.w z1
      refine ⟨b, a, vs, rfl, by rw [A.K]; exact t, h1 g1 H1 _ s1 fun g3 H3 s3 => ?_⟩
      obtain ⟨a', vs', e, t3, r3⟩ := (RPo.go s3 rp1).seq s3.w z1
      cases e
      exact yls_enumM (by rw [A.K]; exact t3) s3.w r3
    · cases q
  · have ht := ht rfl
    cases tg <;> first | (cases ht; done) | skip
    split at q
    · rename_i x px y pos
      simp only [Bool.and_eq_true, decide_eq_true_eq] at q
      obtain ⟨⟨hx, hgl⟩, hy⟩ := q
      obtain ⟨hg, ok⟩ := glo_Gl hgl
      subst hx
      have hs := (ia.st y hy).1
      refine pi_weak (pi_enumM hg (A.mgb (by decide)) (pa_cons (ia.e y hy) pa_nil (starEach_cons hs)) (starEach_cons hs)) fun σ H R h => ?_
      obtain ⟨g, ρ, rel, h⟩ := h
      refine tE_in (den_mono S a) rel h (fun p g1 H1 v s1 rel1 rp1 h1 => ?_) fun x z => z
      obtain ⟨b, xs, z1, h1⟩ := itemsLW_seq h1
      obtain ⟨a, vs, rfl, t, r⟩ := RP.seq s1.w z1 rp1
      refine ⟨b, a, vs, rfl, by rw [A.K]; exact t, h1 g1 H1 _ s1 fun g3 H3 l w => ?_⟩
      obtain ⟨a', vs', e, t3, r3⟩ := RP.seq w z1 (RP.up l _ _ rp1)
      cases e
      exact yls_enumM (by rw [A.K]; exact t3) w r3
    · cases q
end
end Rk

set_option maxHeartbeats 4000000
namespace Rk
open PySem PySem.Spec PyProof.Rows L2
section
variable {n : Nms} {S : Sig} {C : Cfg} {g0 g g' : Gh} {H0 H H' : Hp} {X : Cx} {W : WX} {ρ : Env'} {σ : L2.St} {a b c as lo hi : Ex}

/-! ### targets -/
def SameOff (l : List Nat) (σ σ' : L2.St) : Prop := σ.length = σ'.length ∧ ∀ j, j ∉ l → σ[j]? = σ'[j]?
theorem SameOff.refl (l : List Nat) (σ : L2.St) : SameOff l σ σ := ⟨rfl, fun _ _ => rfl⟩
theorem SameOff.trans {l l' : List Nat} {σ σ1 σ2 : L2.St} (a : SameOff l σ σ1) (b : SameOff l' σ1 σ2) : SameOff (l ++ l') σ σ2 :=
  ⟨a.1.trans b.1, fun j h => (a.2 j fun z => h (List.mem_append_left _ z)).trans (b.2 j fun z => h (List.mem_append_right _ z))⟩
def gTg (C : Cfg) (g0 : Gh) (H0 : Hp) (tg : Tg) : TG := fun v σ H Q => ∃ g p ρ, Rel C g0 H0 g H ρ σ ∧ RP C g p v ∧ (tgW tg).one p ρ fun ρ' => ∀ σ', Rel C g0 H0 g H ρ' σ' → SameOff tg.slots σ σ' → Q σ' H
def gTgs (C : Cfg) (g0 : Gh) (H0 : Hp) (tg : Tg) : TGs := fun vs σ H Q => ∃ g ps ρ, Rel C g0 H0 g H ρ σ ∧ RPs C g ps vs ∧ (tgW tg).many ps ρ fun ρ' => ∀ σ', Rel C g0 H0 g H ρ' σ' → SameOff tg.slots σ σ' → Q σ' H
def Tg.len : Tg → Nat
  | .cons _ b => b.len + 1
  | _ => 0
theorem tg_ex : ∀ t : Tg, (∀ (p : PV) (ρ : Env') (Q : Env' → Prop), (tgW t).one p ρ Q → ∃ ρ', Q ρ') ∧ (∀ (ps : List PV) (ρ : Env') (Q : Env' → Prop), (tgW t).many ps ρ Q → ∃ ρ', Q ρ')
  | .nm _ => ⟨fun _ _ _ h => ⟨_, h⟩, fun _ _ _ h => h.elim⟩
  | .tp ts => ⟨fun p ρ Q h => by
      cases p <;> simp only [tgW] at h
      exact (tg_ex ts).2 _ _ _ h, fun _ _ _ h => h.elim⟩
  | .nil => ⟨fun _ _ _ h => h.elim, fun ps ρ Q h => by
      cases ps <;> simp only [tgW] at h
      exact ⟨_, h⟩⟩
  | .cons a b => ⟨fun _ _ _ h => h.elim, fun ps ρ Q h => by
      cases ps <;> simp only [tgW] at h
      obtain ⟨ρ', h⟩ := (tg_ex a).1 _ _ _ h
      exact (tg_ex b).2 _ _ _ h⟩
theorem many_len : ∀ {t : Tg} {ps : List PV} {ρ : Env'} {Q : Env' → Prop}, (tgW t).many ps ρ Q → ps.length = t.len
  | .nm _, _, _, _, h => h.elim
  | .tp _, _, _, _, h => h.elim
  | .nil, ps, _, _, h => by
    cases ps <;> simp only [tgW] at h
    rfl
  | .cons a b, ps, ρ, Q, h => by
    cases ps with
    | nil => simp only [tgW] at h
    | cons p ps =>
      simp only [tgW] at h
      obtain ⟨ρ', h⟩ := (tg_ex a).1 _ _ _ h
      rw [List.length_cons, many_len h]
      rfl
theorem tgOk_len {sc : Scope} : ∀ {t : Tg} {es : List Expr}, (tgOk n sc t).2 es = true → es.length = t.len
  | .nm _, _, h => Bool.noConfusion (show false = true from h)
  | .tp _, _, h => Bool.noConfusion (show false = true from h)
  | .nil, [], h => rfl
  | .nil, _ :: _, h => Bool.noConfusion (show false = true from h)
  | .cons _ _, [], h => Bool.noConfusion (show false = true from h)
  | .cons a b, e :: es, h => by
    have h : ((tgOk n sc a).1 e && (tgOk n sc b).2 es) = true := h
    simp only [Bool.and_eq_true] at h
    rw [List.length_cons, tgOk_len h.2]
    rfl
theorem tg_notStar {sc : Scope} {t : Tg} {e : Expr} (h : (tgOk n sc t).1 e = true) : notStar e = true := by
  cases e <;> first | rfl | skip
  cases t <;> exact Bool.noConfusion (show false = true from h)
theorem assignEach_cons {e : Expr} {es : List Expr} {env : Env} (h : notStar e = true) : assignEach (e :: es) env = (false, assign e env) :: assignEach es env := by
  cases e <;> first | rfl | (simp only [notStar] at h; cases h)
theorem assignEach_of {sc : Scope} {env : Env} : ∀ {t : Tg} {es : List Expr}, (tgOk n sc t).2 es = true → (assignEach es env).length = es.length ∧ (assignEach es env).findIdx? (·.1) = none
  | .nm _, _, h => Bool.noConfusion (show false = true from h)
  | .tp _, _, h => Bool.noConfusion (show false = true from h)
  | .nil, [], h => ⟨rfl, rfl⟩
  | .nil, _ :: _, h => Bool.noConfusion (show false = true from h)
  | .cons _ _, [], h => Bool.noConfusion (show false = true from h)
  | .cons a b, e :: es, h => by
    have h : ((tgOk n sc a).1 e && (tgOk n sc b).2 es) = true := h
    simp only [Bool.and_eq_true] at h
    rw [assignEach_cons (tg_notStar h.1)]
    obtain ⟨h1, h2⟩ := assignEach_of (env := env) h.2
    refine ⟨by rw [List.length_cons, List.length_cons, h1], ?_⟩
    rw [List.findIdx?_cons, h2]
    rfl
theorem SameOff.set (i : Nat) (v : Option V) (σ : L2.St) : SameOff [i] σ (σ.set i v) :=
  ⟨by simp, fun j h => by rw [List.getElem?_set_ne]; exact fun z => h (by simp [z])⟩
/-- a target is stored, from any state of a def or a comprehension's block -/
theorem pg_of (hN : X.N = n.N) (hnd : n.N.Nodup) (hK : X.K = C.K) (hc : X.calm = true) {sc : Scope} (hT : ∀ x, loc sc x = true → Loc X.env.scope x ∧ (X.fn x = true ∨ X.env.scope.names.lookup x = some .local)) :
    ∀ tg : Tg, (∀ e, (tgOk n sc tg).1 e = true → PG X e (gTg C g0 H0 tg)) ∧ (∀ es, (tgOk n sc tg).2 es = true → PGs X es (gTgs C g0 H0 tg))
  | .nm i => ⟨fun e h => by
      cases e <;> first | exact Bool.noConfusion (show false = true from h) | skip
      rename_i x pos
      have h : (decide (n.N[i]? = some x) && loc sc x) = true := h
      simp only [Bool.and_eq_true, decide_eq_true_eq] at h
      obtain ⟨h1, h2⟩ := hT x h.2
      refine ⟨fun pins s σ H v u Q I r q => (pg_name (i := i) (by rw [hN]; exact hnd) (by rw [hN]; exact h.1) h1 h2).run pins s σ H v u Q I r ?_⟩
      obtain ⟨g, p, ρ, rel, rp, q⟩ := q
      exact q _ (rel.set i rp) (SameOff.set i _ σ), fun es h => Bool.noConfusion (show false = true from h)⟩
  | .tp ts => ⟨fun e h => by
      cases e <;> first | exact Bool.noConfusion (show false = true from h) | skip
      rename_i es k pos
      have h : (tgOk n sc ts).2 es = true := h
      obtain ⟨h1, h2⟩ := assignEach_of (env := X.env) h
      refine ⟨fun pins s σ H v u Q I r q => (pg_tup hc ((pg_of hN hnd hK hc hT ts).2 es h) h1 h2).run pins s σ H v u Q I r ?_⟩
      obtain ⟨g, p, ρ, rel, rp, q⟩ := q
      cases p <;> simp only [tgW] at q
      obtain ⟨a, vs, rfl, t, r⟩ := rp
      refine ⟨a, vs, rfl, hK ▸ sqt_up rel.w.sub t, ?_, g, _, ρ, rel, r, q⟩
      rw [← r.len, many_len q, tgOk_len h], fun es h => Bool.noConfusion (show false = true from h)⟩
  | .nil => ⟨fun e h => Bool.noConfusion (show false = true from h), fun es h => by
      cases es <;> first | exact Bool.noConfusion (show false = true from h) | skip
      refine ⟨fun pins s σ H vs us Q I r q => pgs_nil.run pins s σ H vs us Q I r ?_⟩
      obtain ⟨g, ps, ρ, rel, rp, q⟩ := q
      cases ps <;> simp only [tgW] at q
      exact ⟨rp, q σ rel (SameOff.refl _ σ)⟩⟩
  | .cons a b => ⟨fun e h => Bool.noConfusion (show false = true from h), fun es h => by
      cases es <;> first | exact Bool.noConfusion (show false = true from h) | skip
      rename_i e es
      have h : ((tgOk n sc a).1 e && (tgOk n sc b).2 es) = true := h
      simp only [Bool.and_eq_true] at h
      refine ⟨fun pins s σ H vs us Q I r q => (pgs_cons ((pg_of hN hnd hK hc hT a).1 e h.1) ((pg_of hN hnd hK hc hT b).2 es h.2) (by rw [assignEach_cons (tg_notStar h.1)]; rfl)).run pins s σ H vs us Q I r ?_⟩
      obtain ⟨g, ps, ρ, rel, rp, q⟩ := q
      cases ps <;> simp only [tgW] at q
      obtain ⟨v, vr, rfl, r1, r2⟩ := rp
      refine ⟨v, vr, rfl, g, _, ρ, rel, r1, (tgW_mono a).one (fun ρ' q σ' rel' so => ?_) q⟩
      exact ⟨g, _, ρ', rel', r2, (tgW_mono b).many (fun ρ2 q σ2 rel2 so2 => q σ2 rel2 (so.trans so2)) q⟩⟩

/-! ### comprehensions -/
theorem wipe_off {l : List Nat} {σ σ' : L2.St} : ∀ (vs : List Nat), SameOff l σ σ' → (∀ j, j ∈ l → j ∈ vs) → wipe σ vs = wipe σ' vs := fun vs h hs => by
  refine List.ext_getElem? fun j => ?_
  have core : ∀ (vs : List Nat) (σ : L2.St), (wipe σ vs)[j]? = if j ∈ vs ∧ j < σ.length then some none else σ[j]? := by
    intro vs
    induction vs with
    | nil => intro σ; simp [wipe]
    | cons v vs ih =>
      intro σ
      unfold wipe
      by_cases e : v = j
      · subst e
        by_cases hl : v < σ.length
        · rw [List.getElem?_set_self (by rw [wipe_length]; exact hl), if_pos ⟨by simp, hl⟩]
        · rw [List.getElem?_eq_none (by rw [List.length_set, wipe_length]; omega), if_neg (fun z => hl z.2), List.getElem?_eq_none (by omega)]
      · rw [List.getElem?_set_ne e, ih σ]
        have e1 : (j ∈ v :: vs ∧ j < σ.length) ↔ (j ∈ vs ∧ j < σ.length) := by
          simp only [List.mem_cons]
          constructor
          · rintro ⟨z | z, h⟩
            · exact absurd z.symm e
            · exact ⟨z, h⟩
          · rintro ⟨z, h⟩
            exact ⟨.inr z, h⟩
        simp only [e1]
  rw [core, core, h.1]
  by_cases hj : j ∈ vs ∧ j < σ'.length
  · rw [if_pos hj, if_pos hj]
  · rw [if_neg hj, if_neg hj]
    by_cases hl : j < σ'.length
    · exact h.2 j fun z => hj ⟨hs j z, hl⟩
    · rw [List.getElem?_eq_none (by rw [h.1]; omega), List.getElem?_eq_none (by omega)]
theorem Rel.wipe (r : Rel C g0 H0 g H ρ σ) : ∀ vs : List Nat, Rel C g0 H0 g H (wipeR ρ vs) (wipe σ vs)
  | [] => r
  | v :: vs => (Rel.wipe r vs).unset v none
theorem own_len : ∀ {own : List Nat}, ((ownOf n own).length == own.length) = true → (ownOf n own).map (·.2) = own
  | [], _ => rfl
  | i :: own, h => by
    have le : ∀ l : List Nat, (ownOf n l).length ≤ l.length := fun l => by
      unfold ownOf
      exact List.length_filterMap_le _ _
    unfold ownOf at h ⊢
    cases e : n.N[i]? with
    | none =>
      rw [List.filterMap_cons, e] at h
      have h := eq_of_beq h
      have h2 := le own
      unfold ownOf at h2
      simp only [Option.map_none, List.length_cons] at h
      omega
    | some x =>
      rw [List.filterMap_cons, e] at h ⊢
      simp only [Option.map_some, List.length_cons, List.map_cons] at h ⊢
      have h := eq_of_beq h
      have ih := own_len (own := own) (by
        unfold ownOf
        rw [beq_iff_eq]
        omega)
      unfold ownOf at ih
      rw [ih]
end
end Rk

set_option maxHeartbeats 4000000
namespace Rk
open PySem PySem.Spec PyProof.Rows L2

/-! ### xs.count(y), {}, isinstance of the error that is held -/
def rCntV (K : PySem.W.Frag) : V → List V → Hp → VK → Prop := fun x xs H Q => ∃ (a : Addr) (ys : List V) (y : V), x = .ref a ∧ xs = [y] ∧ SqL K H a ys ∧ flatV y = true ∧ ys.all flatV = true ∧ Q (.int (ys.countP (fun z => eqV z y) : Nat)) H
theorem cnt_vals {y : V} : ∀ {ys : List V} {us : List Value}, Vals ys us → ys.all flatV = true → us.countP (eqU y) = ys.countP fun z => eqV z y
  | _, _, .nil, _ => rfl
  | z :: ys, u :: us, .cons r t, f => by
    rw [List.all_cons, Bool.and_eq_true] at f
    rw [List.countP_cons, List.countP_cons, cnt_vals t f.2, eqU_of r f.1]
theorem mt_countV {X : Cx} : MtR X "list.count" (rCntV X.K) := by
  intro pins s σ H x xs v us Q I rx rxs h
  obtain ⟨a, ys, y, rfl, rfl, hs, fy, fys, q⟩ := h
  cases rx
  obtain ⟨uy, rfl, ry⟩ := rxs.one
  obtain ⟨its, rv, ⟨⟨oc, od, odt, osl⟩, nn, ho, h1, h2, h3⟩, _⟩ := I.list hs
  simp only at h1 h3
  subst h1 h3
  refine call_meets PySem.F.slot_list_count ⟨_, ho, rfl⟩ PySem.F.entry_list_count (PySem.F.args_list_count_2 _ _) (SeqAt.list_countAt a its.toArray nn od osl uy (eqU y)) ⟨ho, fun u hu => mem_eqAt ry fy rv fys u (by simpa using hu), ?_⟩
  have ec : its.toArray.toList.countP (eqU y) = ys.countP fun z => eqV z y := cnt_vals rv fys
  refine ⟨.int (ys.countP (fun z => eqV z y) : Nat), H, I.tok _, ⟨s.toks, ?_⟩, q⟩
  rw [ec]
theorem cnt_flat {q : PV} (f1 : q.flat = true) : ∀ {xs : List PV}, xs.all PV.flat = true → (xs.map flatOf).countP (fun z => eqV z (flatOf q)) = xs.countP fun x => x.eqv q
  | [], _ => rfl
  | x :: xs, f => by
    rw [List.all_cons, Bool.and_eq_true] at f
    rw [List.map_cons, List.countP_cons, List.countP_cons, cnt_flat f1 f.2, eqV_of f.1 f1]
section
variable {n : Nms} {S : Sig} {C : Cfg} {g0 g g' : Gh} {H0 H H' H1 : Hp} {X : Cx} {W : WX} {ρ : Env'} {σ : L2.St} {a b : Ex}
theorem snd_cnt (A : At n S C X W) (ia : Snd n S C g0 H0 X W a) (ib : Snd n S C g0 H0 X W b) : Snd n S C g0 H0 X W (.cnt a b) :=
  Snd.ofE A rfl rfl (fun ρ Q Q' E E' hq he h => (den_mono S (.cnt a b)).e hq he h) rfl fun e q => by
    split at q
    · rename_i x m ap y cp
      simp only [Bool.and_eq_true, decide_eq_true_eq] at q
      obtain ⟨⟨⟨⟨q1, q2⟩, q3⟩, q4⟩, q5⟩ := q
      subst q1
      have hb : attributeBase x "count" X.env (eval x X.env) = eval x X.env := by
        cases x <;> first | rfl | (cases q3; done)
      have ns := (ib.st y q5).1
      refine ⟨pe_weak (pe_bm PySem.F.plainAttrs_list PySem.F.slot_list_count PySem.F.type_list_count mt_countV (ia.o x q4) (pa_cons (ib.e y q5) pa_nil (starEach_cons ns)) hb ?_ q2 (starEach_cons ns) rfl) fun σ H Q h => ?_, rfl⟩
      · rw [starEach_cons ns]
        rfl
      · obtain ⟨g, ρ, rel, h⟩ := h
        refine tO_in (den_mono S a) rel h (fun p g1 H1 v s1 rel1 rp1 h1 => ?_) fun x z => z
        cases p <;> first | exact h1.elim | skip
        rename_i xs
        obtain ⟨l, vs, rfl, e2, r2⟩ := rp1.lst s1.w
        refine ⟨.inl ⟨rfl, vs, SqL.of e2⟩, ?_⟩
        refine tE_in (den_mono S b) rel1 h1 (fun q g2 H2 u s2 rel2 rp2 h2 => ?_) fun x z => z.go s1
        obtain ⟨f1, f2, h2⟩ := h2
        obtain ⟨l', vs', e, e3, r3⟩ := (rp1.go s2).lst s2.w
        cases e
        have ev := RPs.flat f2 r3
        subst ev
        refine ⟨l, _, flatOf q, rfl, by rw [RP.flat f1 rp2], SqL.of e3, flatV_of f1, all_flatV f2, ?_⟩
        rw [cnt_flat f1 f2]
        exact h2 g2 H2 _ (s1.trans s2) rfl
    · cases q
theorem snd_dnew (A : At n S C X W) : Snd n S C g0 H0 X W .dnew :=
  Snd.ofN A rfl rfl (fun ρ Q Q' E E' hq he h => hq _ h) rfl fun e q => by
    split at q
    · refine ⟨pe_weak pe_dnewK fun σ H Q h => ?_, rfl⟩
      obtain ⟨g, ρ, rel, h⟩ := h
      exact Out.dct (vs := []) rel.w h rfl
    · cases q
theorem snd_isx (A : At n S C X W) (T : Tie n S C g0 H0 X W) (i : Nat) (c : Option Nat) : Snd n S C g0 H0 X W (.isx i c) :=
  Snd.ofE A rfl rfl (fun ρ Q Q' E E' hq he h => (den_mono S (.isx i c)).e hq he h) rfl fun e q => by
    split at q
    · rename_i x px y py t pt pos
      simp only [Bool.and_eq_true, decide_eq_true_eq] at q
      obtain ⟨⟨⟨⟨⟨⟨⟨hx, hgl⟩, hh⟩, hy1⟩, hy2⟩, hy3⟩, hgt⟩, hc⟩ := q
      obtain ⟨hg, ok⟩ := glo_Gl hgl
      obtain ⟨hgt, okt⟩ := glo_Gl hgt
      have hm := A.mgb (b := x) (by rw [hx]; decide)
      have hv : bootBuiltins x = some (.builtin "isinstance") := by rw [hx]; decide +kernel
      obtain ⟨d1, d2, _⟩ := okName_db hy3
      refine ⟨?_, rfl⟩
      cases hE : g0.E with
      | none =>
        refine ⟨fun pins s σ H Q I h => ?_⟩
        obtain ⟨g, ρ, rel, h⟩ := h
        have h : exW ρ[i]? _ := h
        unfold exW at h
        split at h
        · rename_i k e
          obtain ⟨a, _, e2⟩ := rel.at_ i _ e
          rw [rel.step.E, hE] at e2
          cases e2
        · exact h.elim
      | some ak =>
        obtain ⟨a, k⟩ := ak
        obtain ⟨D, hD, hr⟩ := T.ex hh a k hE
        obtain ⟨kk, L, _⟩ := A.lib
        have core : ∀ {σ : L2.St} {H : Hp} {Q : VK} {cc : V} {cv : Value}, (∀ u, RelV cc u → u = cv) → PySem.W.kitOne X.K (.ref D) cv = some (isxB S.sb k c) → tE C g0 H0 W (den S (.isx i c)).e σ H Q →
            ∃ v, σ[i]? = some (some v) ∧ rIsE X.K D a [v, cc] H Q := fun {σ H Q cc cv} h1 h2 h => by
          obtain ⟨g, ρ, rel, h⟩ := h
          have h : exW ρ[i]? _ := h
          unfold exW at h
          split at h
          · rename_i k' e
            obtain ⟨a', e1, e2⟩ := rel.at_ i _ e
            rw [rel.step.E, hE] at e2
            cases e2
            exact ⟨_, e1, cc, cv, _, rfl, h1, h2, h g H _ (Step.refl rel.w) rfl⟩
          · exact h.elim
        cases c with
        | none =>
          have hc : t = "ValueError" := by simpa using hc
          have hmt := A.mgb (b := t) (by rw [hc]; decide)
          have hvt : bootBuiltins t = some (.type "ValueError") := by rw [hc]; decide +kernel
          refine pe_weak (pe_callB hr hg hm hv (pa_cons (pe_var (i := i) (by rw [A.N]; exact hy1) (vis_Vis hy2) d1 d2) (pa_cons (pe_bltn (v := .ty "ValueError") hgt hmt hvt rfl (okName_db okt).2.2 (okName_db okt).1) pa_nil)) (hn := (okName_db ok).2.2) (hdb := (okName_db ok).1)) fun σ H Q h => ?_
          obtain ⟨v, e, h⟩ := core (cc := .ty "ValueError") (cv := .type "ValueError") (fun u z => z) (by rw [A.K]; exact (L.exc k D hD).2) h
          exact ⟨v, e, h⟩
        | some j =>
          have hc : n.cl j = some t := by simpa using hc
          obtain ⟨D', hmt, hD', hk⟩ := L.cls j t hc
          refine pe_weak (pe_callB hr hg hm hv (pa_cons (pe_var (i := i) (by rw [A.N]; exact hy1) (vis_Vis hy2) d1 d2) (pa_cons (pe_glob (v := .ref D') hgt hmt rfl (okName_db okt).1) pa_nil)) (hn := (okName_db ok).2.2) (hdb := (okName_db ok).1)) fun σ H Q h => ?_
          obtain ⟨v, e, h⟩ := core (cc := .ref D') (cv := .ref D') (fun u z => z) (by rw [A.K]; exact (hk k D hD).1) h
          exact ⟨v, e, h⟩
    · cases q
theorem snd_thk (A : At n S C X W) (T : Tie n S C g0 H0 X W) (i : Nat) : Snd n S C g0 H0 X W (.thk i) :=
  Snd.ofE A rfl rfl (fun ρ Q Q' E E' hq he h => (den_mono S (.thk i)).e hq he h) rfl fun e q => by
    split at q
    · rename_i x px pos
      simp only [Bool.and_eq_true, decide_eq_true_eq] at q
      obtain ⟨⟨hh, hi⟩, hx⟩ := q
      subst hi
      refine ⟨?_, rfl⟩
      cases hF : g0.F with
      | none =>
        refine ⟨fun pins s σ H Q I h => ?_⟩
        obtain ⟨g, ρ, rel, h⟩ := h
        have h : thW ρ[0]? _ := h
        unfold thW at h
        split at h
        · rename_i e
          obtain ⟨a, _, e2⟩ := rel.at_ 0 _ e
          rw [rel.step.F, hF] at e2
          cases e2
        · exact h.elim
      | some f =>
        refine pe_weak (T.th hh f hF x px pos (by rw [A.N]; exact hx)) fun σ H Q h => ?_
        obtain ⟨g, ρ, rel, h⟩ := h
        have h : thW ρ[0]? _ := h
        unfold thW at h
        split at h
        · rename_i e
          obtain ⟨a, e1, e2⟩ := rel.at_ 0 _ e
          rw [rel.step.F, hF] at e2
          cases e2
          obtain ⟨Q0, E0, h1, h2, h3⟩ := h
          exact ⟨e1, g, Q0, E0, rel.step, fun p z g' H' v => h1 p z g' H' v, fun x z => h2 x z, h3⟩
        · exact h.elim
    · cases q
end
end Rk

set_option maxHeartbeats 4000000
namespace Rk
open PySem PySem.Spec PyProof.Rows L2

/-! ### a def that is handed a lambda -/
section
variable {C : Cfg} {g : Gh} {H H1 : Hp}
/-- all but tables stay: a step -/
theorem Step.ext (w : W0 C g H) (e : LamX.ExtN H H1) (t : LamX.Tabs C.Tb H1) : Step C g H g H1 := by
  have keep : ∀ {b : Addr} {xs : List V}, H b = some (.lst xs) → H1 b = H b := fun {b xs} h => by
    rw [e _ _ h (fun ps z => by cases z), h]
  refine ⟨Le.refl g, ⟨fun a o h => e a o (w.sub a o h) fun ps z => w.ntb a ps (by rw [← z]; exact h), w.ntb, t, fun p hp => ?_, w.dj⟩, fun a n o h => ?_, fun a o h nt _ => e a o h nt, fun a o h n => (by rw [n] at h; cases h), fun p h => .inl h, rfl, rfl⟩
  · obtain ⟨h1, h2⟩ := w.tok p hp
    obtain ⟨⟨x1, k1⟩, ⟨x2, k2⟩, _⟩ := C.hl _ _ _ h1
    exact ⟨C.hk _ _ _ _ h1 (keep k1) (keep k2), h2⟩
  · by_cases z : ∃ ps, o = .tbl ps
    · exact z
    · exact n o (e a o h fun ps q => z ⟨ps, q⟩)
theorem free_code {c' : Addr} {q : Str} (w : W0 C g H) (h : H c' = some (LamX.CodeO c' q)) : Free g.T c' := fun p hp => by
  obtain ⟨⟨x1, k1⟩, ⟨x2, k2⟩, _⟩ := C.hl _ _ _ (w.tok p hp).1
  refine ⟨fun z => ?_, fun z => ?_⟩
  · rw [z, k1] at h
    unfold LamX.CodeO at h
    cases h
  · rw [z, k2] at h
    unfold LamX.CodeO at h
    cases h
end
section
variable {X : Cx} {pins : List (Addr × Obj)} {σ : L2.St} {H : Hp} {s : Shared}
/-- the maker's lambda at f is called from the def at ga that was entered at s -/
theorem pe_thk {CXg : CXT} {Eg : XK} {Ng : List Str} {qg : Str} {sg : Scope} {ga f c' : Addr} {cd pm ctv : Value} {params : Arguments} {body : Expr} {scope : Scope} {k : Nat} {a : Str} {pn : List (Addr × Obj)} {xe : Value → Shared → Prop} {W : WX} {tb : XK → TE} {p1 p2 : Pos}
    (I : Inv X pins σ H s) (L : LamX.LamS X.env.scope scope) (ho : s.heap.get? f = some (PySem.W.kla_obj "<lambda>" (X.env.qual ++ "<lambda>") params body scope (cloFrom X.env.cells scope.names []) pm c' ctv)) (nf : H f = none) (nfr : f ∉ frs X.stack)
    (hbind : bindArgs (PySem.W.kla_fn "<lambda>" (X.env.qual ++ "<lambda>") params body scope (cloFrom X.env.cells scope.names []) pm (.ref c') ctv) ⟨[], []⟩ = pure [])
    (tk : Takes ((cxOf CXg X.prog X.w X.K X.mg X.base Ng qg sg ga cd X.A X.stack s H Eg).tr pn xe) W) (room : Room (k + 1) (X.A.deeper (envOfC qg sg s.heap.objs.size ga cd)))
    (hbody : ∀ (s' : Shared) (H' : Hp) (E : XK), PE (LamX.lamCx X (X.A.deeper (envOfC qg sg s.heap.objs.size ga cd)) (envOfC qg sg s.heap.objs.size ga cd :: X.stack) s' H' E scope f c') body (tb E))
    (hN : Ng[0]? = some a) (hv : Vis sg a) (d1 : (a == ("__debug__" : Str)) = false) (d2 : (a == ("__classdict__" : Str)) = false) :
    PE ((cxOf CXg X.prog X.w X.K X.mg X.base Ng qg sg ga cd X.A X.stack s H Eg).tr pn xe) (.Call (.Name a p1) [] [] p2)
      (fun σZ HZ Q => σZ[0]? = some (some (.ref f)) ∧ HZ c' = some (LamX.CodeO c' (X.env.qual ++ "<lambda>")) ∧ tb (fun cls d H' => W cls d σZ H') σ HZ Q) := by
  constructor
  intro pinsZ sZ σZ HZ Q IZ ⟨hs, hc, ht⟩
  refine wpAny_Call_Name_kw (thn ((pe_var (pos := p1) (i := 0) hN hv d1 d2).run pinsZ sZ σZ HZ (fun v H1 => v = .ref f ∧ H1 = HZ) IZ ⟨.ref f, hs, rfl, rfl⟩) fun u s1 hu => ?_)
  obtain ⟨v, H1, I1, r1, e1, e2⟩ := hu
  subst e1 e2
  cases (show u = Value.ref f from r1)
  have of1 := I1.base.keep f _ ho nf nfr (fun z => nomatch (show f ∈ ([] : List Addr) from z))
  refine PySem.W.callWith_F0 ⟨_, _, _, _, of1⟩ ?_
  have un : Un (frs X.stack) [] H H1 s.heap s1.heap := I1.base
  obtain ⟨⟨oc, vs, t, g1, g2, g3⟩, _⟩ := I1.hok c' _ hc
  have run : codeAny (model X.prog X.w) (X.A.deeper (envOfC qg sg s.heap.objs.size ga cd)) (.call (.ref f) ⟨[], []⟩) (CR (L2.CX X.prog X.w) (envOfC qg sg s.heap.objs.size ga cd :: X.stack) X.prog X.w H1 s1 Q fun cls d H' => W cls d σZ H') s1 := by
    refine PySem.W.kla_callFunE room.depth of1 rfl L.co L.gen rfl ⟨c', oc, vs, t, rfl, g1, g2, g3⟩ ?_
    rw [hbind]
    refine wpAny_pure (wpAny_newFunctionEnv (fun y hy => (L.own y hy).2) (fun y hy => absurd hy (by simp)) (fun h₁ hns hsb => ⟨I1.nolimit.fresh _ hsb, ?_⟩) L.kind)
    have kept : ∀ b o, s1.heap.get? b = some o → h₁.get? b = some o := fun b o e => hsb.extBut b o (Nat.ne_of_lt (Heap.lt_size e)) (Heap.get?_push_of_some _ e)
    have J := LamX.lam_start2 (tk := s1.toks + ([] : List (Str × Value)).length) (E := fun cls d H' => W cls d σZ H') (A := X.A.deeper (envOfC qg sg s.heap.objs.size ga cd)) (outer := envOfC qg sg s.heap.objs.size ga cd :: X.stack) (f := f) (c' := c') I L I1.env0 room.hd un hns kept
    refine PySem.W.kla_codeExpr (wpAny_mono ((hbody s1 H1 _).run [] _ _ H1 Q J ht) (fun v s' hq => ?_) fun e s' hq => hq)
    obtain ⟨w', H', J', rv, q⟩ := hq
    exact ⟨w', H', J'.os, J'.bare, J'.base, J'.hok, rv, q⟩
  refine wpAny_call (codeAny_mono run fun r s' hq => ?_)
  match r, hq with
  | .error e, hq => exact passAt tk σZ pinsZ H1 s1 e s' I1 hq
  | .ok (.ret u), hq => exact I1.after hq
end
section
variable {n : Nms} {S : Sig} {C : Cfg} {g0 g g' : Gh} {H0 H H' H1 : Hp} {X : Cx} {W : WX} {ρ : Env'} {σ : L2.St} {a b : Ex}
theorem snd_lam (A : At n S C X W) (T : Tie n S C g0 H0 X W) (j : Nat) (ib : ∀ X' W', At { n with fl := f0 } S C X' W' → Tie { n with fl := f0 } S C g0 H0 X' W' → Snd { n with fl := f0 } S C g0 H0 X' W' b) : Snd n S C g0 H0 X W (.lam j b) :=
  Snd.ofE A rfl rfl (fun ρ Q Q' E E' hq he h => (den_mono S (.lam j b)).e hq he h) rfl fun e q => by
    split at q
    · rename_i x px params body scope lpos pos
      simp only [Bool.and_eq_true, decide_eq_true_eq] at q
      obtain ⟨⟨⟨⟨⟨⟨⟨q1, q2⟩, q3⟩, q4⟩, q5⟩, q6⟩, q7⟩, q8⟩ := q
      obtain ⟨hg, ok⟩ := glo_Gl q2
      obtain ⟨k, L, hr⟩ := A.lib
      have hr := (hr (cold_hot q3)).mono (show k + 2 ≤ k + n.fl.up by omega)
      obtain ⟨m, ga, N, qg, sg, cd, a, hmk, hm, hNa, hva, oka, WD⟩ := L.wds j x q1
      obtain ⟨c, P, TB, hcode, hmT, hu⟩ := A.lm q4
      have LS := LamX.lamS_by q7
      have cd0 := T.cold q3
      obtain ⟨d1, d2, _⟩ := okName_db oka
      have ep : params = ⟨[], [], none, [], [], none, []⟩ := by
        unfold noPar at q6
        split at q6
        · rfl
        · cases q6
      subst ep
      refine ⟨⟨fun pins s σ H Q I h => ?_⟩, rfl⟩
      obtain ⟨g, ρ, rel, h⟩ := h
      have h : (S.wd j).run (fun Q' E' => (den S b).e ρ Q' E') (fun p => ∀ g' H' v, Step C g H g' H' → RP C g' p v → Q v H') := h
      refine wpAny_Call_Name_kw (ld_glob I hg hm ?_ (okName_db ok).1)
      refine PySem.W.callWith_K (h₀ := X.base) I.ok.mod.kin (by rw [A.K]; exact WD.keep) ?_ (by rfl) (by rfl)
      have es : backTo pos (starEach [Expr.Lambda ⟨[], [], none, [], [], none, []⟩ body scope lpos] X.env) = (false, eval (.Lambda ⟨[], [], none, [], [], none, []⟩ body scope lpos) X.env) :: backTo pos (starEach [] X.env) := by rfl
      rw [es]
      refine Calls.spliced_cons (LamX.lam_make2 I TB hcode hmT hu rel.w.tab rfl (LS.has I.ok) fun f c' pm ctv H1 s1 I1 eN T1 hf nf nfr hco => ?_)
      refine Calls.spliced_nil ⟨I1.kIn, ?_⟩
      have st := Step.ext rel.w eN T1
      have rel1 := rel.go st
      have body_ok : ∀ (A1 : Around) (o1 : List Env) (s' : Shared) (H' : Hp) (E : XK), Room k (A1.deeper (LamX.lamEnv X scope s'.heap.objs.size f c')) → A1.guards = some [] →
          PE (LamX.lamCx X A1 o1 s' H' E scope f c') body (tE C g0 H0 (fun cls d _ H' => E cls d H') (den S b).e) := fun A1 o1 s' H' E room gd => by
        have tk : Takes (LamX.lamCx X A1 o1 s' H' E scope f c') (fun cls d _ H' => E cls d H') := takes_of rfl rfl rfl rfl
        have A' : At { n with fl := f0 } S C (LamX.lamCx X A1 o1 s' H' E scope f c') (fun cls d _ H' => E cls d H') :=
          ⟨A.N, A.nd, A.K, fun _ => rfl, gd, tk, ⟨k, ⟨L.fns, L.cns, L.wds, L.cls, L.exc, L.blt⟩, fun _ => room⟩, room.units, fun _ => rfl, fun z => (by cases z)⟩
        exact (ib _ _ A' ⟨fun _ => cd0, fun _ => cd0.1, fun z => (by cases z), fun z => (by cases z)⟩).e body q8
      have roomg : ∀ (cdv : Value) (sz : Nat), Room (k + 1) (X.A.deeper (envOfC qg sg sz ga cdv)) := fun cdv sz => hr.deeper _
      have go := WD.run X.A X.stack s1 H1 f (fun Q' E' => (den S b).e ρ Q' E') g Q (hr.mono (by omega)) A.gd (by rw [← A.K]; exact I1.env0) ⟨rel.step.E.trans cd0.1, rel.step.F.trans cd0.2⟩ st.w (fun pn xe W' p1 p2 tk' room' => ?_)
        ((S.wd j).mono _ _ _ (fun p z g' H' v s2 r => z g' H' v (st.trans s2) r) h)
      · refine wpAny_call (codeAny_mono go fun r s2 hq => ?_)
        match r, hq with
        | .error e, hq => exact (show False from hq).elim
        | .ok (.ret u), hq => exact I1.after hq
      · rw [← A.K] at tk' ⊢
        refine pe_weak (pe_thk (k := k) (tb := fun E => tE C g0 H0 (fun cls d _ H' => E cls d H') (den S b).e) I1 LS hf nf nfr rfl tk' (roomg _ _) (fun s' H' E => body_ok _ _ s' H' E ((roomg _ _).deeper _) A.gd) hNa hva d1 d2) fun σZ HZ Qz hz => ?_
        obtain ⟨e1, gz, Q0, E0, sz, hq, hx, ht⟩ := hz
        refine ⟨e1, sz.frame _ _ hco (fun ps z => LamX.codeO_ne ps z) (free_code st.w hco), gz, ρ, rel1.go sz, (den_mono S b).e (fun p z g' H' v s r => hq p z g' H' v s r) (fun x z g' H' cls d s r => hx x z g' H' cls d s r) ht⟩
    · cases q
end
end Rk

set_option maxHeartbeats 4000000
namespace Rk
open PySem PySem.Spec PyProof.Rows L2
section
variable {n : Nms} {S : Sig} {C : Cfg} {g0 g g' : Gh} {H0 H H' : Hp} {X : Cx} {W : WX} {ρ : Env'} {σ : L2.St} {a k x v : Ex}
theorem RPk.getD {j : Key} {xs : List (Key × PV)} {vs : List (Key × V)} (h : RPk C g xs vs) {z : PV} {v : V} (hz : RP C g z v) : RP C g ((dg xs j).getD z) ((valV vs j).getD v) := by
  have b := h.at_ (k := j)
  cases e : dg xs j with
  | none =>
    rw [b.2 e]
    exact hz
  | some q =>
    obtain ⟨u, e2, r⟩ := b.1 q e
    rw [e2]
    exact r
theorem attr_base {o : Expr} {env : Env} {m : Str} (h : attrOk o = true) : attributeBase o m env (eval o env) = eval o env := by
  cases o <;> first | rfl | (cases h; done)
theorem snd_dgt (A : At n S C X W) (ia : Snd n S C g0 H0 X W a) (ik : Snd n S C g0 H0 X W k) (ix : Snd n S C g0 H0 X W x) : Snd n S C g0 H0 X W (.dgt a k x) :=
  Snd.ofE A rfl rfl (fun ρ Q Q' E E' hq he h => (den_mono S (.dgt a k x)).e hq he h) rfl fun e q => by
    have hu := A.hu
    split at q
    · rename_i o m ap y cp
      simp only [Bool.and_eq_true, decide_eq_true_eq] at q
      obtain ⟨⟨⟨⟨⟨q1, q2⟩, q3⟩, q4⟩, q5⟩, q6⟩ := q
      subst q1
      have ns := (ik.st y q6).1
      have m1 : M1 X o "get" ap y cp := ⟨attr_base q3, by rw [starEach_cons ns]; rfl, q2, by rw [starEach_cons ns]; rfl⟩
      refine ⟨pe_weak (pe_dget1 (by omega) (ia.o o q5) (ik.e y q6) m1) fun σ H Q h => ?_, rfl⟩
      obtain ⟨g, ρ, rel, h⟩ := h
      refine tO_in (den_mono S a) rel h (fun p g1 H1 v s1 rel1 rp1 h1 => ?_) fun x z => z
      obtain ⟨kvs, rfl, h1⟩ := dctW_at h1
      obtain ⟨d, vs, rfl, t, r⟩ := rp1.dct s1.w
      refine ⟨d, rfl, .inl ⟨vs, t⟩, ?_⟩
      refine tE_in (den_mono S k) rel1 h1 (fun q g2 H2 u s2 rel2 rp2 h2 => ?_) fun x z => z.go s1
      obtain ⟨j, e0, h2'⟩ := keyW_at h2
      subst e0
      have h2 := h2'
      obtain ⟨d', vs', e, t2, r2⟩ := (rp1.go s2).dct s2.w
      cases e
      refine ⟨_, .inl ⟨vs', j, t2, keyP_v rp2, rfl⟩, ?_⟩
      simp only [q4, if_true] at h2
      exact h2 g2 H2 _ (s1.trans s2) (r2.getD rfl)
    · rename_i o m ap y z cp
      simp only [Bool.and_eq_true, decide_eq_true_eq, Bool.not_eq_true'] at q
      obtain ⟨⟨⟨⟨⟨⟨q1, q2⟩, q3⟩, q4⟩, q5⟩, q6⟩, q7⟩ := q
      subst q1
      have ns := (ik.st y q6).1
      have ns2 := (ix.st z q7).1
      have m2 : M2 X o "get" ap y z cp := ⟨attr_base q3, by rw [starEach_cons ns, starEach_cons ns2]; rfl, q2, by rw [starEach_cons ns, starEach_cons ns2]; rfl⟩
      refine ⟨pe_weak (pe_dget2 (by omega) (ia.o o q5) (ik.e y q6) (ix.e z q7) m2) fun σ H Q h => ?_, rfl⟩
      obtain ⟨g, ρ, rel, h⟩ := h
      refine tO_in (den_mono S a) rel h (fun p g1 H1 v s1 rel1 rp1 h1 => ?_) fun x z => z
      obtain ⟨kvs, rfl, h1⟩ := dctW_at h1
      obtain ⟨d, vs, rfl, t, r⟩ := rp1.dct s1.w
      refine ⟨d, rfl, .inl ⟨vs, t⟩, ?_⟩
      refine tE_in (den_mono S k) rel1 h1 (fun q g2 H2 u s2 rel2 rp2 h2 => ?_) fun x z => z.go s1
      obtain ⟨j, e0, h2'⟩ := keyW_at h2
      subst e0
      have h2 := h2'
      simp only [q4, Bool.false_eq_true, if_false] at h2
      refine tE_in (den_mono S x) rel2 h2 (fun w g3 H3 u3 s3 rel3 rp3 h3 => ?_) fun x z => z.go (s1.trans s2)
      obtain ⟨d', vs', e, t2, r2⟩ := ((rp1.go s2).go s3).dct s3.w
      cases e
      refine ⟨_, .inl ⟨vs', j, t2, keyP_v rp2, rfl⟩, ?_⟩
      exact h3 g3 H3 _ ((s1.trans s2).trans s3) (r2.getD rp3)
    · cases q
theorem snd_dvw (A : At n S C X W) (b : Bool) (ia : Snd n S C g0 H0 X W a) : Snd n S C g0 H0 X W (.dvw b a) := by
  refine Snd.ofI rfl rfl (fun e tg q ht => ?_) fun e tg q ht => ?_
  · split at q
    · rename_i o m ap cp
      simp only [Bool.and_eq_true, decide_eq_true_eq] at q
      obtain ⟨⟨⟨q1, q2⟩, q3⟩, q4⟩ := q
      cases b with
      | false =>
        subst q1
        refine pi_weak (pi_values (ia.e o q4) (attr_base q3) q2) fun σ H R h => ?_
        obtain ⟨g, ρ, rel, h⟩ := h
        refine tE_in (den_mono S a) rel h (fun p g1 H1 v s1 rel1 rp1 h1 => ?_) fun x z => z
        obtain ⟨kvs, rfl, h1⟩ := dctW_at h1
        obtain ⟨d, vs, od, rfl, t, r⟩ := rp1
        exact ⟨d, od, vs, rfl, s1.w.sub _ _ t, h1 g1 H1 _ s1 fun g2 H2 t2 => yls_vals (t2.w.sub _ _ (t2.le.G _ _ t)) t2.w (RPk.up t2.le _ _ r)⟩
      | true =>
        have ht := ht rfl
        cases tg <;> first | (cases ht; done) | skip
        subst q1
        refine pi_weak (pi_items (ia.e o q4) (attr_base q3) q2) fun σ H R h => ?_
        obtain ⟨g, ρ, rel, h⟩ := h
        refine tE_in (den_mono S a) rel h (fun p g1 H1 v s1 rel1 rp1 h1 => ?_) fun x z => z
        obtain ⟨kvs, rfl, h1⟩ := dctW_at h1
        obtain ⟨d, vs, od, rfl, t, r⟩ := rp1
        exact ⟨d, od, vs, rfl, s1.w.sub _ _ t, h1 g1 H1 _ s1 fun g2 H2 t2 => yls_items (t2.w.sub _ _ (t2.le.G _ _ t)) t2.w (RPk.up t2.le _ _ r)⟩
    · cases q
  · split at q
    · rename_i o m ap cp
      simp only [Bool.and_eq_true, decide_eq_true_eq] at q
      obtain ⟨⟨⟨q1, q2⟩, q3⟩, q4⟩ := q
      cases b with
      | false =>
        subst q1
        refine pi_weak (pi_values (ia.e o q4) (attr_base q3) q2) fun σ H R h => ?_
        obtain ⟨g, ρ, rel, h⟩ := h
        refine tE_in (den_mono S a) rel h (fun p g1 H1 v s1 rel1 rp1 h1 => ?_) fun x z => z
        obtain ⟨kvs, rfl, h1⟩ := dctW_at h1
        obtain ⟨d, vs, od, rfl, t, r⟩ := rp1
        exact ⟨d, od, vs, rfl, s1.w.sub _ _ t, h1 g1 H1 _ s1 fun g2 H2 l w => yls_vals (w.sub _ _ (l.G _ _ t)) w (RPk.up l _ _ r)⟩
      | true =>
        have ht := ht rfl
        cases tg <;> first | (cases ht; done) | skip
        subst q1
        refine pi_weak (pi_items (ia.e o q4) (attr_base q3) q2) fun σ H R h => ?_
        obtain ⟨g, ρ, rel, h⟩ := h
        refine tE_in (den_mono S a) rel h (fun p g1 H1 v s1 rel1 rp1 h1 => ?_) fun x z => z
        obtain ⟨kvs, rfl, h1⟩ := dctW_at h1
        obtain ⟨d, vs, od, rfl, t, r⟩ := rp1
        exact ⟨d, od, vs, rfl, s1.w.sub _ _ t, h1 g1 H1 _ s1 fun g2 H2 l w => yls_items (w.sub _ _ (l.G _ _ t)) w (RPk.up l _ _ r)⟩
    · cases q
theorem snd_dd1 (A : At n S C X W) (ik : Snd n S C g0 H0 X W k) (iv : Snd n S C g0 H0 X W v) : Snd n S C g0 H0 X W (.dd1 k v) :=
  Snd.ofN A rfl rfl (fun ρ Q Q' E E' hq he h => (den_mono S (.dd1 k v)).e hq he h) rfl fun e q => by
    split at q
    · rename_i y z pos
      simp only [Bool.and_eq_true] at q
      refine ⟨pe_weak (pe_disp (pos := pos) (pps_cons (ik.e y q.1) (iv.e z q.2) pps_nil) rfl rfl (by simp) (by simp)) fun σ H Q h => ?_, rfl⟩
      obtain ⟨g, ρ, rel, h⟩ := h
      intro d nd
      have s0 := Step.lay (o := .dK []) rel.w nd
      have rel0 := rel.go s0
      have h : (den S k).e ρ (fun q => keyW q fun j => (den S v).e ρ (fun z => Out C g H Q (.dct [(j, z)])) (XW C g H W σ)) (XW C g H W σ) := h
      refine tE_in (den_mono S k) rel0 h (fun p g1 H1 u s1 rel1 rp1 h1 => ?_) fun x z => z.go s0
      obtain ⟨j, e0, h1'⟩ := keyW_at h1
      subst e0
      have h1 := h1'
      refine tE_in (den_mono S v) rel1 h1 (fun w g2 H2 u2 s2 rel2 rp2 h2 => ?_) fun x z => z.go (s0.trans s1)
      have st := s1.trans s2
      have f0 : Free g.T d := rel.w.free_new nd
      have e2 : H2 d = some (.dK []) := st.frame _ _ upd_same (fun ps z => (by cases z)) f0
      have nG : g2.G d = none := st.none_own upd_same (fun ps z => by cases z) (rel.w.none_of nd)
      have e0 : upd H d (.dK []) d = some (.dK []) := upd_same
      have f2 := Free.step st e0 (fun ps z => by cases z) f0
      refine ⟨e2, [(j, u2)], ?_, by simp, ?_⟩
      · show [(u, u2)] = [(kV j, u2)]
        rw [keyP_v rp1]
      · have sw := (s0.trans st).write (o' := .dK (mergeK [] [(j, u2)])) e2 (fun ps z => (by cases z)) (fun φ z => (by cases z)) (.of nd) nG f2
        exact h2 g2 _ _ sw ⟨d, [(j, u2)], rfl, upd_same, ⟨u2, [], rfl, rp2, rfl⟩, nG, .of nd, f2⟩
    · cases q
end
end Rk

set_option maxHeartbeats 4000000
namespace Rk
open PySem PySem.Spec PyProof.Rows L2
section
variable {n : Nms} {S : Sig} {C : Cfg} {g0 g g' : Gh} {H0 H H' : Hp} {X : Cx} {W : WX} {ρ : Env'} {σ : L2.St} {a b c as lo hi : Ex}
theorem rps_ints : ∀ ns : List Int, RPs C g (ns.map PV.int) (ns.map V.int)
  | [] => rfl
  | i :: ns => RPs.cons rfl (rps_ints ns)
theorem rps_rg (i j : Int) : RPs C g (rngL i (j - i).toNat) (rgV i j) := by
  have h := rps_ints (C := C) (g := g) ((List.range (j - i).toNat).map fun k : Nat => i + (k : Int))
  simpa [rngL, rgV, Function.comp_def] using h
theorem pe_rg {e : Expr} {te : L2.St → Hp → (Int → Int → Hp → Prop) → Prop} (m : Bool) {x : Str} {p pos : Pos} (hx : x = if m then "tuple" else "list") (hc : X.calm = true) (hg : Gl X x) (hm : ∀ b, b ∈ bltNames → X.mg b = none) (he : PRg X e te) (na : starEach [e] X.env = (false, eval e X.env) :: starEach [] X.env := by rfl) :
    PE X (.Call (.Name x p) [e] [] pos) (fun σ H Q => te σ H fun a b H1 => RgOk a b ∧ ∀ q, H1 q = none → Q (.ref q) (upd H1 q (if m then .tup (rgV a b) else .lst (rgV a b)))) := by
  cases m with
  | true =>
    subst hx
    exact pe_tupRg hc hg (hm _ (by decide)) he na
  | false =>
    subst hx
    exact pe_listRg hc hg (hm _ (by decide)) he na
theorem rgk {m : Bool} {g1 : Gh} {H1 : Hp} {i j : Int} {Q : VK} (s1 : Step C g H g1 H1) (h : trgW m (.int i) (.int j) (Out C g H Q)) : RgOk i j ∧ ∀ q, H1 q = none → Q (.ref q) (upd H1 q (if m then .tup (rgV i j) else .lst (rgV i j))) := by
  obtain ⟨⟨h1, h2, h3⟩, h⟩ := h
  refine ⟨⟨h1.1, h1.2, h2.1, h2.2, h3⟩, fun q hq => ?_⟩
  have r := rps_rg (C := C) (g := g1) i j
  cases m with
  | true => exact (h.go s1).tup s1.w r q hq
  | false => exact (h.go s1).lst s1.w r q hq
theorem snd_trg (A : At n S C X W) (m : Bool) (il : Snd n S C g0 H0 X W lo) (ih : Snd n S C g0 H0 X W hi) : Snd n S C g0 H0 X W (.trg m lo hi) :=
  Snd.ofN A rfl rfl (fun ρ Q Q' E E' hq he h => (den_mono S (.trg m lo hi)).e hq he h) rfl fun e q => by
    split at q
    · rename_i x px y py u rp pos
      simp only [Bool.and_eq_true, decide_eq_true_eq, Bool.not_eq_true'] at q
      obtain ⟨⟨⟨⟨⟨⟨hx, hgx⟩, hy⟩, hgy⟩, hn⟩, hu⟩, hot⟩ := q
      subst hy
      have hs := (ih.st u hu).1
      refine ⟨pe_weak (pe_rg m hx (A.calm hot) (glo_Gl hgx).1 (fun b hb => A.mgb hb) (prg_1 (glo_Gl hgy).1 (A.mgb (by decide)) (ih.e u hu) (starEach_cons hs))) fun σ H Q h => ?_, rfl⟩
      obtain ⟨g, ρ, rel, h⟩ := h
      have h : if lo.isNil then (den S hi).e ρ (fun q => trgW m (.int 0) q (Out C g H Q)) (XW C g H W σ) else _ := h
      rw [if_pos hn] at h
      refine tE_in (den_mono S hi) rel h (fun p g1 H1 v s1 rel1 rp h => ?_) fun x z => z
      cases p <;> first | exact h.elim | skip
      have rp : v = .int _ := rp
      exact ⟨_, rp, rgk s1 h⟩
    · rename_i x px y py u v rp pos
      simp only [Bool.and_eq_true, decide_eq_true_eq, Bool.not_eq_true'] at q
      obtain ⟨⟨⟨⟨⟨⟨⟨hx, hgx⟩, hy⟩, hgy⟩, hn⟩, hu⟩, hv⟩, hot⟩ := q
      subst hy
      have hs := (il.st u hu).1
      have hs2 := (ih.st v hv).1
      refine ⟨pe_weak (pe_rg m hx (A.calm hot) (glo_Gl hgx).1 (fun b hb => A.mgb hb) (prg_2 (glo_Gl hgy).1 (A.mgb (by decide)) (il.e u hu) (ih.e v hv) (starEach_cons hs) (starEach_cons hs2) (by rw [starEach_cons hs2]; rfl))) fun σ H Q h => ?_, rfl⟩
      obtain ⟨g, ρ, rel, h⟩ := h
      have h : if lo.isNil then _ else (den S lo).e ρ (fun p => (den S hi).e ρ (fun q => trgW m p q (Out C g H Q)) (XW C g H W σ)) (XW C g H W σ) := h
      rw [if_neg (by rw [hn]; decide)] at h
      refine tE_in (den_mono S lo) rel h (fun p g1 H1 v s1 rel1 rp h => ?_) fun x z => z
      refine tE_in (den_mono S hi) rel1 h (fun q g2 H2 v s2 rel2 rq h => ?_) fun x z => z.go s1
      cases p <;> cases q <;> first | exact h.elim | skip
      have rp : _ = V.int _ := rp
      have rq : _ = V.int _ := rq
      exact ⟨_, _, rp, rq, rgk (s1.trans s2) h⟩
    · cases q
theorem ediv_add {x c : Int} (h0 : 0 < c) : x / c * c ≤ x ∧ x < x / c * c + c := by
  have e := Int.mul_ediv_add_emod x c
  have e2 := Int.emod_nonneg x (show c ≠ 0 by omega)
  have e3 := Int.emod_lt_of_pos x h0
  rw [Int.mul_comm] at e
  omega
theorem rgC_of {i j c : Int} (h : c ≠ 0 ∧ -1000 ≤ c ∧ c ≤ 1000 ∧ -(2 ^ 30) ≤ i ∧ i < 2 ^ 30 ∧ -(2 ^ 30) ≤ j ∧ j < 2 ^ 30) : RgC i j c (cntC i j c) := by
  obtain ⟨c0, c1, c2, i1, i2, j1, j2⟩ := h
  have e : Builtin.Range.rangeSize i j c = (cntC i j c : Int) := by
    unfold Builtin.Range.rangeSize cntC
    by_cases hc : 0 < c
    · rw [if_pos hc]
      try rw [if_pos hc]
      split
      · have := Int.ediv_nonneg (a := j - i - 1) (b := c) (by omega) (by omega)
        omega
      · rfl
    · rw [if_neg hc]
      try rw [if_neg hc]
      by_cases hij : i > j
      · simp only [if_pos hij, if_pos (show j < i from hij)]
        have := Int.ediv_nonneg (a := i - j - 1) (b := -c) (by omega) (by omega)
        omega
      · simp only [if_neg hij, if_neg (show ¬ j < i from hij)]
        rfl
  refine ⟨c0, by omega, ?_, e⟩
  have b0 : cntC i j c ≤ 2 ^ 31 := by
    unfold cntC
    by_cases hc : 0 < c
    · rw [if_pos hc]
      split
      · have := Int.ediv_le_self (a := j - i - 1) c (by omega)
        omega
      · exact Nat.zero_le _
    · rw [if_neg hc]
      split
      · have := Int.ediv_le_self (a := i - j - 1) (-c) (by omega)
        omega
      · exact Nat.zero_le _
  unfold Builtin.Range.small
  rw [e]
  simp only [Builtin.Range.rangeFitsLong, Bool.and_eq_true, Bool.or_eq_true, decide_eq_true_eq, beq_iff_eq]
  generalize (cntC i j c) = k at *
  refine ⟨⟨⟨⟨⟨by omega, by omega⟩, by omega, by omega⟩, by omega, by omega⟩, by omega, by omega⟩, .inr ?_⟩
  split <;> (simp only [Bool.and_eq_true, decide_eq_true_eq]; omega)
theorem yls_rngC {lo c : Int} {n : Nat} (w : W0 C g H) : Yls C (Itc lo c n) (rngC lo c n) g H := by
  refine ⟨fun k x e => ?_, ?_⟩
  · unfold rngC at e
    rw [List.getElem?_map] at e
    cases q : (List.range n)[k]? with
    | none => rw [q] at e; cases e
    | some j =>
      rw [q] at e
      obtain ⟨h1, h2⟩ := List.getElem?_eq_some_iff.mp q
      simp at h1 h2
      subst h2
      cases e
      refine ⟨h1, fun v H2 y => ?_⟩
      obtain ⟨rfl, rfl⟩ := y
      exact ⟨g, Step.refl w, rfl⟩
  · show n ≤ (rngC lo c n).length
    unfold rngC
    simp
theorem snd_rng3 (A : At n S C X W) (ia : Snd n S C g0 H0 X W a) (ib : Snd n S C g0 H0 X W b) (ic : Snd n S C g0 H0 X W c) : Snd n S C g0 H0 X W (.rng3 a b c) := by
  have core : ∀ e tg, (match e with
      | .Call (.Name x _) [y, z, u] [] _ => decide (x = "range") && glo X.env.scope x && (chk n a).e X.env.scope y && (chk n b).e X.env.scope z && (chk n c).e X.env.scope u
      | _ => false) = true → ∃ ta, PI X tg e (iRng3 ta) ∧ ∀ (g : Gh) (ρ : Env') (σ : L2.St) (H : Hp) (R : It → Hp → Prop) (L : List PV → Prop), Rel C g0 H0 g H ρ σ → (den S (.rng3 a b c)).i ρ L (XW C g H W σ) →
        (∀ (i j k : Int) g1 H1, Step C g H g1 H1 → L (rngC i k (cntC i j k)) → R (Itc i k (cntC i j k)) H1) → iRng3 ta σ H R := fun e tg q => by
    split at q
    · rename_i x px y z u pos
      simp only [Bool.and_eq_true, decide_eq_true_eq] at q
      obtain ⟨⟨⟨⟨hx, hgl⟩, hy⟩, hz⟩, hu⟩ := q
      obtain ⟨hg, ok⟩ := glo_Gl hgl
      subst hx
      have hs := (ia.st y hy).1
      have hs2 := (ib.st z hz).1
      have hs3 := (ic.st u hu).1
      refine ⟨_, pi_range3 hg (A.mgb (by decide)) (pa_cons (ia.e y hy) (pa_cons (ib.e z hz) (pa_cons (ic.e u hu) pa_nil (starEach_cons hs3)) (starEach_cons hs2)) (starEach_cons hs)) (starEach_cons hs) (starEach_any (by rw [List.all_cons, List.all_cons, hs2, hs3]; rfl)), fun g ρ σ H R L rel h hR => ?_⟩
      refine tE_in (den_mono S a) rel h (fun p g1 H1 v s1 rel1 rp1 h1 => ?_) fun x z => z
      refine tE_in (den_mono S b) rel1 h1 (fun q g2 H2 u s2 rel2 rp2 h2 => ?_) fun x z => z.go s1
      refine tE_in (den_mono S c) rel2 h2 (fun r g3 H3 w s3 rel3 rp3 h3 => ?_) fun x z => z.go (s1.trans s2)
      cases p <;> cases q <;> cases r <;> first | exact h3.elim | skip
      have rp1 : v = .int _ := rp1
      have rp2 : u = .int _ := rp2
      have rp3 : w = .int _ := rp3
      exact ⟨_, _, _, _, by rw [rp1, rp2, rp3], rgC_of h3.1, hR _ _ _ g3 H3 ((s1.trans s2).trans s3) h3.2⟩
    · cases q
  refine Snd.ofI rfl rfl (fun e tg q _ => ?_) fun e tg q _ => ?_
  · obtain ⟨ta, h1, h2⟩ := core e tg q
    exact pi_weak h1 fun σ H R ⟨g, ρ, rel, h⟩ => h2 g ρ σ H R (fun items => ∀ (g' : Gh) (H' : Hp) (J : It), Step C g H g' H' → Yl C J g' H' items → R J H') rel h fun i j k g1 H1 s1 z => z g1 H1 _ s1 fun g2 H2 s2 => yls_rngC s2.w
  · obtain ⟨ta, h1, h2⟩ := core e tg q
    exact pi_weak h1 fun σ H R ⟨g, ρ, rel, h⟩ => h2 g ρ σ H R (fun items => ∀ (g' : Gh) (H' : Hp) (J : It), Step C g H g' H' → YlF C J g' items → R J H') rel h fun i j k g1 H1 s1 z => z g1 H1 _ s1 fun g2 H2 _ w2 => yls_rngC w2
end
end Rk

set_option maxHeartbeats 4000000
namespace Rk
open PySem PySem.Spec PyProof.Rows L2
section
variable {n : Nms} {S : Sig} {C : Cfg} {g0 g g' : Gh} {H0 H H' : Hp} {X : Cx} {W : WX} {ρ : Env'} {σ : L2.St} {src cnd elt ky : Ex}

theorem At.blk (A : At n S C X W) (s : Shared) (H : Hp) (scope : Scope) (cl : List (Str × Addr)) (Ca : Addr) (fp : List Addr) : At n S C (X.blk s H scope (compEnvC scope cl Ca X.env) fp) (fun _ _ _ _ => False) :=
  ⟨A.N, A.nd, A.K, A.calm, A.gd, LamX.takes0, A.lib, A.hu, A.tcw, A.lm⟩
theorem wipe_twice (σ : L2.St) (vs : List Nat) : wipe (wipe σ vs) vs = wipe σ vs := by
  refine (wipe_off (l := vs) vs ⟨(wipe_length σ vs).symm, fun j h => ?_⟩ fun j h => h).symm
  induction vs with
  | nil => rfl
  | cons v vs ih =>
    simp only [List.mem_cons, not_or] at h
    unfold wipe
    rw [List.getElem?_set_ne (fun z => h.1 z.symm)]
    exact ih h.2
theorem Step.put (s : Step C g H g' H') {D : Addr} {vs ws : List V} (h : H' D = some (.lst vs)) (n : Nt H D) (nG : g'.G D = none) (f : Free g'.T D) : Step C g H g' (upd H' D (.lst ws)) :=
  s.write h (fun ps z => (by cases z)) (fun φ z => (by cases z)) n nG f

/-- a comprehension, from its parts -/
theorem lc_of (A : At n S C X W) {tg : Tg} {own : List Nat} {wi : TI} {tt : TT} {one : PV → Env' → (Env' → Prop) → Prop} {cndW : Env' → (Bool → Prop) → Prop} {J0 : Unit}
    (hsl : ∀ j, j ∈ tg.slots → j ∈ own)
    (htt : ∀ {g : Gh} {H : Hp} {ρ : Env'} {σ : L2.St} {R : Bool → Prop} {Q : Bool → Hp → Prop}, Rel C g0 H0 g H ρ σ → cndW ρ R → (∀ b g' H', Step C g H g' H' → Rel C g0 H0 g' H' ρ σ → R b → Q b H') → tt σ H Q)
    {g : Gh} {H : Hp} {ρ : Env'} {σ : L2.St} {Q : VK} (rel : Rel C g0 H0 g H ρ σ) {items : List PV} {g1 : Gh} {H1 : Hp} (s1 : Step C g H g1 H1) {J : It} (y : Yl C J g1 H1 items)
    (h : compW (tgW tg).one cndW (fun ρ' R => (den S elt).e ρ' R fun _ => False) (wipeR ρ own) items [] fun ys => Out C g H Q (.lst ys)) :
    ∀ D, H1 D = none → ∃ W : Nat → Nat → Hp → Prop, (∃ m, W 0 m (upd H1 D (.lst []))) ∧ ∀ i m H, W i m H →
      (J.stop i H ∧ Q (.ref D) H) ∨ (J.go i H ∧ ∃ Nx : Hp → Prop, (∀ H', Nx H' → ∃ m', m' < m ∧ W (i + 1) m' H') ∧ ∀ x H', J.yld i H x H' → gTg C g0 H0 tg x (wipe σ own) H' fun σ2 H2 => wipe σ2 own = wipe σ own ∧ tt σ2 H2 fun b H3 =>
        if b = true then tE C g0 H0 (fun _ _ _ _ => False) (den S elt).e σ2 H3 fun y H4 => ∃ acc, H4 D = some (.lst acc) ∧ acc.length < sizeLine ∧ Nx (upd H4 D (.lst (acc ++ [y]))) else Nx H3) := by
  intro D nD
  have rel1 := rel.go s1
  let Wd : Nat → Nat → Hp → Prop := fun i m Hi => m = items.length - i ∧ i ≤ items.length ∧ ∃ gi ys vs, Step C g1 H1 gi Hi ∧ Hi D = some (.lst vs) ∧ RPs C gi ys vs ∧ gi.G D = none ∧ Free gi.T D ∧
    compW (tgW tg).one cndW (fun ρ' R => (den S elt).e ρ' R fun _ => False) (wipeR ρ own) (items.drop i) ys fun ys => Out C g H Q (.lst ys)
  refine ⟨Wd, ⟨items.length, rfl, Nat.zero_le _, g1, [], [], Step.lay s1.w nD, upd_same, rfl, s1.w.none_of nD, s1.w.free_new nD, h⟩, ?_⟩
  rintro i m Hi ⟨rfl, hi, gi, ys, vs, st, hD, rp, nG, fr, hc⟩
  obtain ⟨y1, y2⟩ := y gi Hi st
  by_cases hlt : i < items.length
  · obtain ⟨x, hx⟩ : ∃ x, items[i]? = some x := ⟨_, List.getElem?_eq_getElem hlt⟩
    have hdrop : items.drop i = x :: items.drop (i + 1) := by
      obtain ⟨h1, h2⟩ := List.getElem?_eq_some_iff.mp hx
      rw [← h2]
      exact List.drop_eq_getElem_cons h1
    obtain ⟨go, yl⟩ := y1 i x hx
    refine .inr ⟨go, Wd (i + 1) (items.length - (i + 1)), fun H' w => ⟨_, by omega, w⟩, fun v H2 yv => ?_⟩
    obtain ⟨g2, st2, rv⟩ := yl v H2 yv
    rw [hdrop] at hc
    simp only [compW] at hc
    have relw : Rel C g0 H0 g2 H2 (wipeR ρ own) (wipe σ own) := (rel1.go (st.trans st2)).wipe own
    refine ⟨g2, x, _, relw, rv, (tgW_mono tg).one (fun ρ' hc σ2 rel2 so => ⟨?_, ?_⟩) hc⟩
    · rw [← wipe_off own so hsl]
      exact wipe_twice σ own
    · refine htt rel2 hc fun b g3 H3 st3 rel3 hb => ?_
      have up : ∀ {g4 H4}, Step C g3 H3 g4 H4 → Step C g1 H1 g4 H4 ∧ H4 D = some (.lst vs) ∧ RPs C g4 ys vs ∧ g4.G D = none ∧ Free g4.T D := fun {g4 H4} st4 => by
        have t := (st2.trans st3).trans st4
        exact ⟨st.trans t, t.frame D _ hD (fun ps z => (by cases z)) fr, RPs.up t.le _ _ rp, t.none_own hD (fun ps z => by cases z) nG, Free.step t hD (fun ps z => by cases z) fr⟩
      cases b with
      | true =>
        simp only [if_true] at hb ⊢
        refine tE_in (den_mono S elt) rel3 hb (fun p g4 H4 u st4 rel4 rp4 hb => ?_) fun x z => z.elim
        obtain ⟨a1, a2, a3, a4, a5⟩ := up st4
        refine ⟨vs, a2, by rw [← a3.len]; exact hb.1, rfl, hlt, g4, ys ++ [p], vs ++ [u], a1.put a2 (.of nD) a4 a5, upd_same, RPs.app a3 (RPs.cons rp4 RPs.nil), a4, a5, hb.2⟩
      | false =>
        simp only [Bool.false_eq_true, if_false] at hb ⊢
        obtain ⟨a1, a2, a3, a4, a5⟩ := up (Step.refl rel3.w)
        exact ⟨rfl, hlt, g3, ys, vs, a1, a2, a3, a4, a5, hb⟩
  · have e : i = items.length := by omega
    subst e
    rw [List.drop_length] at hc
    have hc : Out C g H Q (.lst ys) := hc
    exact .inl ⟨y2, hc gi Hi (.ref D) (s1.trans st) ⟨D, vs, rfl, hD, rp, nG, s1.dom _ (.of nD), fr⟩⟩

/-- a dict comprehension, from its parts -/
theorem dc_of (A : At n S C X W) {tg : Tg} {own : List Nat} {wi : TI} {tt : TT} {one : PV → Env' → (Env' → Prop) → Prop} {cndW : Env' → (Bool → Prop) → Prop} {J0 : Unit}
    (hsl : ∀ j, j ∈ tg.slots → j ∈ own)
    (htt : ∀ {g : Gh} {H : Hp} {ρ : Env'} {σ : L2.St} {R : Bool → Prop} {Q : Bool → Hp → Prop}, Rel C g0 H0 g H ρ σ → cndW ρ R → (∀ b g' H', Step C g H g' H' → Rel C g0 H0 g' H' ρ σ → R b → Q b H') → tt σ H Q)
    {g : Gh} {H : Hp} {ρ : Env'} {σ : L2.St} {Q : VK} (rel : Rel C g0 H0 g H ρ σ) {items : List PV} {g1 : Gh} {H1 : Hp} (s1 : Step C g H g1 H1) {J : It} (y : Yl C J g1 H1 items)
    (h : dcoW (tgW tg).one cndW (fun ρ' R => (den S ky).e ρ' R fun _ => False) (fun ρ' R => (den S elt).e ρ' R fun _ => False) (wipeR ρ own) items [] fun ys => Out C g H Q (.dct ys)) :
    ∀ D, H1 D = none → ∃ W : Nat → Nat → Hp → Prop, (∃ m, W 0 m (upd H1 D (.dK []))) ∧ ∀ i m H, W i m H →
      (J.stop i H ∧ Q (.ref D) H) ∨ (J.go i H ∧ ∃ Nx : Hp → Prop, (∀ H', Nx H' → ∃ m', m' < m ∧ W (i + 1) m' H') ∧ ∀ x H', J.yld i H x H' → gTg C g0 H0 tg x (wipe σ own) H' fun σ2 H2 => wipe σ2 own = wipe σ own ∧ tt σ2 H2 fun b H3 =>
        if b = true then tE C g0 H0 (fun _ _ _ _ => False) (den S ky).e σ2 H3 fun y H4 => tE C g0 H0 (fun _ _ _ _ => False) (den S elt).e σ2 H4 fun z H5 => ∃ kvs k, y = kV k ∧ H5 D = some (.dK kvs) ∧ kvs.length < sizeLine ∧ Nx (upd H5 D (.dK (putK kvs k z))) else Nx H3) := by
  intro D nD
  have rel1 := rel.go s1
  let Wd : Nat → Nat → Hp → Prop := fun i m Hi => m = items.length - i ∧ i ≤ items.length ∧ ∃ (gi : Gh) (ys : List (Key × PV)) (vs : List (Key × V)), Step C g1 H1 gi Hi ∧ Hi D = some (.dK vs) ∧ RPk C gi ys vs ∧ gi.G D = none ∧ Free gi.T D ∧
    dcoW (tgW tg).one cndW (fun ρ' R => (den S ky).e ρ' R fun _ => False) (fun ρ' R => (den S elt).e ρ' R fun _ => False) (wipeR ρ own) (items.drop i) ys fun ys => Out C g H Q (.dct ys)
  refine ⟨Wd, ⟨items.length, rfl, Nat.zero_le _, g1, [], [], Step.lay s1.w nD, upd_same, rfl, s1.w.none_of nD, s1.w.free_new nD, h⟩, ?_⟩
  rintro i m Hi ⟨rfl, hi, gi, ys, vs, st, hD, rp, nG, fr, hc⟩
  obtain ⟨y1, y2⟩ := y gi Hi st
  by_cases hlt : i < items.length
  · obtain ⟨x, hx⟩ : ∃ x, items[i]? = some x := ⟨_, List.getElem?_eq_getElem hlt⟩
    have hdrop : items.drop i = x :: items.drop (i + 1) := by
      obtain ⟨h1, h2⟩ := List.getElem?_eq_some_iff.mp hx
      rw [← h2]
      exact List.drop_eq_getElem_cons h1
    obtain ⟨go, yl⟩ := y1 i x hx
    refine .inr ⟨go, Wd (i + 1) (items.length - (i + 1)), fun H' w => ⟨_, by omega, w⟩, fun v H2 yv => ?_⟩
    obtain ⟨g2, st2, rv⟩ := yl v H2 yv
    rw [hdrop] at hc
    simp only [dcoW] at hc
    have relw : Rel C g0 H0 g2 H2 (wipeR ρ own) (wipe σ own) := (rel1.go (st.trans st2)).wipe own
    refine ⟨g2, x, _, relw, rv, (tgW_mono tg).one (fun ρ' hc σ2 rel2 so => ⟨?_, ?_⟩) hc⟩
    · rw [← wipe_off own so hsl]
      exact wipe_twice σ own
    · refine htt rel2 hc fun b g3 H3 st3 rel3 hb => ?_
      have up : ∀ {g4 H4}, Step C g3 H3 g4 H4 → Step C g1 H1 g4 H4 ∧ H4 D = some (.dK vs) ∧ RPk C g4 ys vs ∧ g4.G D = none ∧ Free g4.T D := fun {g4 H4} st4 => by
        have t := (st2.trans st3).trans st4
        exact ⟨st.trans t, t.frame D _ hD (fun ps z => (by cases z)) fr, RPk.up t.le _ _ rp, t.none_own hD (fun ps z => by cases z) nG, Free.step t hD (fun ps z => by cases z) fr⟩
      cases b with
      | true =>
        simp only [if_true] at hb ⊢
        refine tE_in (den_mono S ky) rel3 hb (fun q g4 H4 u st4 rel4 rq hb => ?_) fun x z => z.elim
        obtain ⟨j, e0, hb'⟩ := keyW_at hb
        subst e0
        refine tE_in (den_mono S elt) rel4 hb' (fun p g5 H5 w st5 rel5 rp5 hb => ?_) fun x z => z.elim
        obtain ⟨a1, a2, a3, a4, a5⟩ := up (st4.trans st5)
        refine ⟨vs, j, keyP_v rq, a2, by rw [← a3.len]; exact hb.1, rfl, hlt, g5, dp ys j p, putK vs j w, a1.write a2 (fun ps z => (by cases z)) (fun φ z => (by cases z)) (.of nD) a4 a5, upd_same, RPk.put rp5 a3, a4, a5, hb.2⟩
      | false =>
        simp only [Bool.false_eq_true, if_false] at hb ⊢
        obtain ⟨a1, a2, a3, a4, a5⟩ := up (Step.refl rel3.w)
        exact ⟨rfl, hlt, g3, ys, vs, a1, a2, a3, a4, a5, hb⟩
  · have e : i = items.length := by omega
    subst e
    rw [List.drop_length] at hc
    have hc : Out C g H Q (.dct ys) := hc
    exact .inl ⟨y2, hc gi Hi (.ref D) (s1.trans st) ⟨D, vs, rfl, hD, rp, nG, s1.dom _ (.of nD), fr⟩⟩

/-- a comprehension gives a list -/
theorem comp_lst {tg : Tg} {own : List Nat} {ρ : Env'} {Q : PV → Prop} {E : Exn → Prop} (h : (den S (.comp tg src cnd elt own)).e ρ Q E) : (den S (.comp tg src cnd elt own)).e ρ (fun p => Q p ∧ ∃ ys, p = .lst ys) E := by
  have h : (den S src).i ρ (fun items => compW (tgW tg).one (fun ρ' R => if cnd.isNil then R true else (den S cnd).t ρ' R fun _ => False) (fun ρ' R => (den S elt).e ρ' R fun _ => False) (wipeR ρ own) items [] fun ys => Q (.lst ys)) E := h
  show (den S src).i ρ (fun items => compW (tgW tg).one (fun ρ' R => if cnd.isNil then R true else (den S cnd).t ρ' R fun _ => False) (fun ρ' R => (den S elt).e ρ' R fun _ => False) (wipeR ρ own) items [] fun ys => Q (.lst ys) ∧ ∃ zs, PV.lst ys = .lst zs) E
  refine (den_mono S src).i (fun items x => ?_) (fun _ z => z) h
  refine compW_mono (one := (tgW tg).one) (one' := (tgW tg).one) (elt := fun ρ' R => (den S elt).e ρ' R fun _ => False) (elt' := fun ρ' R => (den S elt).e ρ' R fun _ => False) (fun p ρ Q Q' hq x => (tgW_mono tg).one hq x) (fun ρ Q Q' hq x => ?_) (fun ρ Q Q' hq x => (den_mono S elt).e hq (fun _ x => x) x) items [] _ _ (fun ys hy => ⟨hy, ys, rfl⟩) x
  have ih := @(den_mono S cnd).t ρ Q Q' (fun _ => False) (fun _ => False) hq fun _ x => x
  cases hn : cnd.isNil with
  | true =>
    simp only [hn, if_true] at x ⊢
    exact hq _ x
  | false =>
    simp only [hn, Bool.false_eq_true, if_false] at x ⊢
    exact ih x
/-- what a comprehension is made of -/
def CompParts (n : Nms) (S : Sig) (C : Cfg) (g0 : Gh) (H0 : Hp) (X : Cx) (W : WX) (tg : Tg) (src cnd elt : Ex) (own : List Nat) (x t it : Expr) (ifs : List Expr) (scope : Scope) : Prop :=
  ∃ (wi : TI) (g : TG) (tt : TT) (te : TE) (ow : List (Str × Nat)), PI X t it wi ∧ BlkOk X.N X.env.scope scope ow ∧
    (∀ (s : Shared) (H : Hp) (Ca : Addr) (cl : List (Str × Addr)) (fp : List Addr), PG (X.blk s H scope (compEnvC scope cl Ca X.env) fp) t g) ∧
    (∀ (s : Shared) (H : Hp) (Ca : Addr) (cl : List (Str × Addr)) (fp : List Addr), PTs (X.blk s H scope (compEnvC scope cl Ca X.env) fp) ifs tt) ∧
    (∀ (s : Shared) (H : Hp) (Ca : Addr) (cl : List (Str × Addr)) (fp : List Addr), PE (X.blk s H scope (compEnvC scope cl Ca X.env) fp) x te) ∧
    (∀ v, foldedSetIterable it X.env v = pure v) ∧ ∀ σ H Q, tN C g0 H0 W (den S (.comp tg src cnd elt own)).e σ H Q → tLc wi g tt te (ow.map (·.2)) σ H Q
theorem tie_cold (h : n.cold = true) (tc : n.fl.tc = false) (T : Tie n S C g0 H0 X W) {X' : Cx} {W' : WX} : Tie n S C g0 H0 X' W' :=
  ⟨T.cold, T.ne, fun z => (by rw [cold_hot h] at z; cases z), fun z => (by rw [tc] at z; cases z)⟩
theorem comp_parts (A : At n S C X W) (T : Tie n S C g0 H0 X W) (tg : Tg) (own : List Nat) (is : Snd n S C g0 H0 X W src) (ic : ∀ X W, At n S C X W → Tie n S C g0 H0 X W → Snd n S C g0 H0 X W cnd) (ie : ∀ X W, At n S C X W → Tie n S C g0 H0 X W → Snd n S C g0 H0 X W elt) :
    ∀ {x t it : Expr} {ifs : List Expr} {as : Int} {scope : Scope} {pos : Pos}, (chk n (.comp tg src cnd elt own)).e X.env.scope (.ListComp x [⟨t, it, ifs, as⟩] scope pos) = true → n.fl.hot = false ∧ as = 0 ∧ CompParts n S C g0 H0 X W tg src cnd elt own x t it ifs scope := fun {x t it ifs as scope pos} q => by
      have q := (chk_ofE q).2.2.2
      simp only [Bool.and_eq_true, decide_eq_true_eq] at q
      obtain ⟨⟨⟨⟨⟨⟨⟨⟨⟨⟨h0, h1⟩, h2⟩, h3⟩, h4⟩, h5⟩, h6⟩, h7⟩, h8⟩, h9⟩, h10⟩ := q
      subst h0
      have hot := cold_hot h10
      have tc : n.fl.tc = false := A.tcw h10
      refine ⟨hot, rfl, ?_⟩
      have hl := own_len h1
      have hN : X.N.Nodup := by rw [A.N]; exact A.nd
      have ok : BlkOk X.N X.env.scope scope (ownOf n own) := blkOk_by (by rw [A.N]; exact h3)
      have hsl : ∀ j, j ∈ tg.slots → j ∈ own := fun j hj => by
        have z := List.all_eq_true.mp h5 j hj
        simpa using z
      have hT : ∀ (s : Shared) (H : Hp) (Ca : Addr) (cl : List (Str × Addr)) (fp : List Addr) (y : Str), loc scope y = true → Loc (X.blk s H scope (compEnvC scope cl Ca X.env) fp).env.scope y ∧ ((X.blk s H scope (compEnvC scope cl Ca X.env) fp).fn y = true ∨ (X.blk s H scope (compEnvC scope cl Ca X.env) fp).env.scope.names.lookup y = some .local) := fun s H Ca cl fp y hy => by
        rcases loc_Loc hy with z | z
        · have z2 := lookup_relS_keep (sc := X.env.scope) (by decide) z
          exact ⟨.inl z2, .inr z2⟩
        · have z2 := lookup_relS_keep (sc := X.env.scope) (by decide) z
          refine ⟨.inr z2, .inl ?_⟩
          show (scope.names.lookup y == some NameKind.cell) = true
          rw [z]
          rfl
      have hg : ∀ (s : Shared) (H : Hp) (Ca : Addr) (cl : List (Str × Addr)) (fp : List Addr), PG (X.blk s H scope (compEnvC scope cl Ca X.env) fp) t (gTg C g0 H0 tg) := fun s H Ca cl fp =>
        (pg_of (X := X.blk s H scope (compEnvC scope cl Ca X.env) fp) A.N A.nd A.K (A.calm hot) (hT s H Ca cl fp) tg).1 t h4
      have he : ∀ (s : Shared) (H : Hp) (Ca : Addr) (cl : List (Str × Addr)) (fp : List Addr), PE (X.blk s H scope (compEnvC scope cl Ca X.env) fp) x (tE C g0 H0 (fun _ _ _ _ => False) (den S elt).e) := fun s H Ca cl fp =>
        (ie _ _ (A.blk s H scope cl Ca fp) (tie_cold h10 tc T)).e x h9
      have hi := is.i it t h6 (fun z => by
        rw [z] at h7
        simp only [Bool.not_true, Bool.false_or] at h7
        cases tg <;> first | (cases h7; done) | skip
        cases t <;> first | rfl | exact Bool.noConfusion (show false = true from h4))
      have hset := is.si it h6
      have fin : ∀ {tt : TT}, (∀ (s : Shared) (H : Hp) (Ca : Addr) (cl : List (Str × Addr)) (fp : List Addr), PTs (X.blk s H scope (compEnvC scope cl Ca X.env) fp) ifs tt) →
          (∀ {g : Gh} {H : Hp} {ρ : Env'} {σ : L2.St} {R : Bool → Prop} {Q : Bool → Hp → Prop}, Rel C g0 H0 g H ρ σ → (if cnd.isNil then R true else (den S cnd).t ρ R fun _ => False) → (∀ b g' H', Step C g H g' H' → Rel C g0 H0 g' H' ρ σ → R b → Q b H') → tt σ H Q) →
          CompParts n S C g0 H0 X W tg src cnd elt own x t it ifs scope := fun {tt} ht htt => by
        refine ⟨_, _, tt, _, _, hi, ok, hg, ht, he, fun v => noSetIter hset v, fun σ H Q h => ?_⟩
        obtain ⟨g, ρ, rel, h⟩ := h
        rw [hl]
        refine ⟨g, ρ, rel, (den_mono S src).i (fun items hc g1 H1 J s1 y => ?_) (fun x z => z) h⟩
        exact lc_of (J0 := ()) (one := (tgW tg).one) A (wi := fun _ _ _ => True) hsl (fun rel h hq => htt rel h hq) rel s1 y hc
      cases ifs with
      | nil =>
        have hn : cnd.isNil = true := h8
        refine fin (tt := tYes) (fun s H Ca cl fp => pts_nil) fun {g H ρ σ R Q} rel h hq => ?_
        simp only [hn, if_true] at h
        exact hq true g H (Step.refl rel.w) rel h
      | cons c rest =>
        cases rest with
        | cons _ _ => cases h8
        | nil =>
          simp only [Bool.and_eq_true, Bool.not_eq_true'] at h8
          refine fin (tt := tT C g0 H0 (fun _ _ _ _ => False) (den S cnd).t) (fun s H Ca cl fp => pts_one ((ic _ _ (A.blk s H scope cl Ca fp) (tie_cold h10 tc T)).t c h8.2)) fun {g H ρ σ R Q} rel h hq => ?_
          simp only [h8.1, Bool.false_eq_true, if_false] at h
          exact tT_in (den_mono S cnd) rel h (fun b g' H' s r hb => hq b g' H' s r hb) fun x z => z.elim
theorem snd_comp (A : At n S C X W) (T : Tie n S C g0 H0 X W) (tg : Tg) (own : List Nat) (is : Snd n S C g0 H0 X W src) (ic : ∀ X W, At n S C X W → Tie n S C g0 H0 X W → Snd n S C g0 H0 X W cnd) (ie : ∀ X W, At n S C X W → Tie n S C g0 H0 X W → Snd n S C g0 H0 X W elt) :
    Snd n S C g0 H0 X W (.comp tg src cnd elt own) :=
  Snd.ofN' A rfl rfl (fun ρ Q Q' E E' hq he h => (den_mono S (.comp tg src cnd elt own)).e hq he h) rfl fun e q => by
    have q' := (chk_ofE q).2.2.2
    split at q'
    · rename_i x t it ifs as scope pos
      obtain ⟨hot, h0, wi, g, tt, te, ow, h1, h2, h3, h4, h5, h6, h7⟩ := comp_parts A T tg own is ic ie q
      subst h0
      exact ⟨pe_weak (pe_lc (A.calm hot) (by rw [A.N]; exact A.nd) h1 h2 h3 h4 h5 h6) h7, rfl⟩
    · cases q'

/-- what a dict comprehension is made of -/
def DcoParts (n : Nms) (S : Sig) (C : Cfg) (g0 : Gh) (H0 : Hp) (X : Cx) (W : WX) (tg : Tg) (src cnd ky elt : Ex) (own : List Nat) (kx x t it : Expr) (ifs : List Expr) (scope : Scope) : Prop :=
  ∃ (wi : TI) (g : TG) (tt : TT) (tk te : TE) (ow : List (Str × Nat)), PI X t it wi ∧ BlkOk X.N X.env.scope scope ow ∧
    (∀ (s : Shared) (H : Hp) (Ca : Addr) (cl : List (Str × Addr)) (fp : List Addr), PG (X.blk s H scope (compEnvC scope cl Ca X.env) fp) t g) ∧
    (∀ (s : Shared) (H : Hp) (Ca : Addr) (cl : List (Str × Addr)) (fp : List Addr), PTs (X.blk s H scope (compEnvC scope cl Ca X.env) fp) ifs tt) ∧
    (∀ (s : Shared) (H : Hp) (Ca : Addr) (cl : List (Str × Addr)) (fp : List Addr), PE (X.blk s H scope (compEnvC scope cl Ca X.env) fp) kx tk) ∧
    (∀ (s : Shared) (H : Hp) (Ca : Addr) (cl : List (Str × Addr)) (fp : List Addr), PE (X.blk s H scope (compEnvC scope cl Ca X.env) fp) x te) ∧
    (∀ v, foldedSetIterable it X.env v = pure v) ∧ ∀ σ H Q, tN C g0 H0 W (den S (.dco tg src cnd ky elt own)).e σ H Q → tDc wi g tt tk te (ow.map (·.2)) σ H Q
theorem dcomp_parts (A : At n S C X W) (T : Tie n S C g0 H0 X W) (tg : Tg) (own : List Nat) (is : Snd n S C g0 H0 X W src) (ic : ∀ X W, At n S C X W → Tie n S C g0 H0 X W → Snd n S C g0 H0 X W cnd) (ik : ∀ X W, At n S C X W → Tie n S C g0 H0 X W → Snd n S C g0 H0 X W ky) (ie : ∀ X W, At n S C X W → Tie n S C g0 H0 X W → Snd n S C g0 H0 X W elt) :
    ∀ {kx x t it : Expr} {ifs : List Expr} {as : Int} {scope : Scope} {pos : Pos}, (chk n (.dco tg src cnd ky elt own)).e X.env.scope (.DictComp kx x [⟨t, it, ifs, as⟩] scope pos) = true → n.fl.hot = false ∧ as = 0 ∧ DcoParts n S C g0 H0 X W tg src cnd ky elt own kx x t it ifs scope := fun {kx x t it ifs as scope pos} q => by
      have q := (chk_ofE q).2.2.2
      simp only [Bool.and_eq_true, decide_eq_true_eq] at q
      obtain ⟨⟨⟨⟨⟨⟨⟨⟨⟨⟨⟨h0, h1⟩, h2⟩, h3⟩, h4⟩, h5⟩, h6⟩, h7⟩, h8⟩, h11⟩, h9⟩, h10⟩ := q
      subst h0
      have hot := cold_hot h10
      have tc : n.fl.tc = false := A.tcw h10
      refine ⟨hot, rfl, ?_⟩
      have hl := own_len h1
      have hN : X.N.Nodup := by rw [A.N]; exact A.nd
      have ok : BlkOk X.N X.env.scope scope (ownOf n own) := blkOk_by (by rw [A.N]; exact h3)
      have hsl : ∀ j, j ∈ tg.slots → j ∈ own := fun j hj => by
        have z := List.all_eq_true.mp h5 j hj
        simpa using z
      have hT : ∀ (s : Shared) (H : Hp) (Ca : Addr) (cl : List (Str × Addr)) (fp : List Addr) (y : Str), loc scope y = true → Loc (X.blk s H scope (compEnvC scope cl Ca X.env) fp).env.scope y ∧ ((X.blk s H scope (compEnvC scope cl Ca X.env) fp).fn y = true ∨ (X.blk s H scope (compEnvC scope cl Ca X.env) fp).env.scope.names.lookup y = some .local) := fun s H Ca cl fp y hy => by
        rcases loc_Loc hy with z | z
        · have z2 := lookup_relS_keep (sc := X.env.scope) (by decide) z
          exact ⟨.inl z2, .inr z2⟩
        · have z2 := lookup_relS_keep (sc := X.env.scope) (by decide) z
          refine ⟨.inr z2, .inl ?_⟩
          show (scope.names.lookup y == some NameKind.cell) = true
          rw [z]
          rfl
      have hg : ∀ (s : Shared) (H : Hp) (Ca : Addr) (cl : List (Str × Addr)) (fp : List Addr), PG (X.blk s H scope (compEnvC scope cl Ca X.env) fp) t (gTg C g0 H0 tg) := fun s H Ca cl fp =>
        (pg_of (X := X.blk s H scope (compEnvC scope cl Ca X.env) fp) A.N A.nd A.K (A.calm hot) (hT s H Ca cl fp) tg).1 t h4
      have he : ∀ (s : Shared) (H : Hp) (Ca : Addr) (cl : List (Str × Addr)) (fp : List Addr), PE (X.blk s H scope (compEnvC scope cl Ca X.env) fp) x (tE C g0 H0 (fun _ _ _ _ => False) (den S elt).e) := fun s H Ca cl fp =>
        (ie _ _ (A.blk s H scope cl Ca fp) (tie_cold h10 tc T)).e x h9
      have hk : ∀ (s : Shared) (H : Hp) (Ca : Addr) (cl : List (Str × Addr)) (fp : List Addr), PE (X.blk s H scope (compEnvC scope cl Ca X.env) fp) kx (tE C g0 H0 (fun _ _ _ _ => False) (den S ky).e) := fun s H Ca cl fp =>
        (ik _ _ (A.blk s H scope cl Ca fp) (tie_cold h10 tc T)).e kx h11
      have hi := is.i it t h6 (fun z => by
        rw [z] at h7
        simp only [Bool.not_true, Bool.false_or] at h7
        cases tg <;> first | (cases h7; done) | skip
        cases t <;> first | rfl | exact Bool.noConfusion (show false = true from h4))
      have hset := is.si it h6
      have fin : ∀ {tt : TT}, (∀ (s : Shared) (H : Hp) (Ca : Addr) (cl : List (Str × Addr)) (fp : List Addr), PTs (X.blk s H scope (compEnvC scope cl Ca X.env) fp) ifs tt) →
          (∀ {g : Gh} {H : Hp} {ρ : Env'} {σ : L2.St} {R : Bool → Prop} {Q : Bool → Hp → Prop}, Rel C g0 H0 g H ρ σ → (if cnd.isNil then R true else (den S cnd).t ρ R fun _ => False) → (∀ b g' H', Step C g H g' H' → Rel C g0 H0 g' H' ρ σ → R b → Q b H') → tt σ H Q) →
          DcoParts n S C g0 H0 X W tg src cnd ky elt own kx x t it ifs scope := fun {tt} ht htt => by
        refine ⟨_, _, tt, _, _, _, hi, ok, hg, ht, hk, he, fun v => noSetIter hset v, fun σ H Q h => ?_⟩
        obtain ⟨g, ρ, rel, h⟩ := h
        rw [hl]
        refine ⟨g, ρ, rel, (den_mono S src).i (fun items hc g1 H1 J s1 y => ?_) (fun x z => z) h⟩
        exact dc_of (J0 := ()) (one := (tgW tg).one) A (wi := fun _ _ _ => True) hsl (fun rel h hq => htt rel h hq) rel s1 y hc
      cases ifs with
      | nil =>
        have hn : cnd.isNil = true := h8
        refine fin (tt := tYes) (fun s H Ca cl fp => pts_nil) fun {g H ρ σ R Q} rel h hq => ?_
        simp only [hn, if_true] at h
        exact hq true g H (Step.refl rel.w) rel h
      | cons c rest =>
        cases rest with
        | cons _ _ => cases h8
        | nil =>
          simp only [Bool.and_eq_true, Bool.not_eq_true'] at h8
          refine fin (tt := tT C g0 H0 (fun _ _ _ _ => False) (den S cnd).t) (fun s H Ca cl fp => pts_one ((ic _ _ (A.blk s H scope cl Ca fp) (tie_cold h10 tc T)).t c h8.2)) fun {g H ρ σ R Q} rel h hq => ?_
          simp only [h8.1, Bool.false_eq_true, if_false] at h
          exact tT_in (den_mono S cnd) rel h (fun b g' H' s r hb => hq b g' H' s r hb) fun x z => z.elim
theorem snd_dco (A : At n S C X W) (T : Tie n S C g0 H0 X W) (tg : Tg) (own : List Nat) (is : Snd n S C g0 H0 X W src) (ic : ∀ X W, At n S C X W → Tie n S C g0 H0 X W → Snd n S C g0 H0 X W cnd) (ik : ∀ X W, At n S C X W → Tie n S C g0 H0 X W → Snd n S C g0 H0 X W ky) (ie : ∀ X W, At n S C X W → Tie n S C g0 H0 X W → Snd n S C g0 H0 X W elt) :
    Snd n S C g0 H0 X W (.dco tg src cnd ky elt own) :=
  Snd.ofN' A rfl rfl (fun ρ Q Q' E E' hq he h => (den_mono S (.dco tg src cnd ky elt own)).e hq he h) rfl fun e q => by
    have q' := (chk_ofE q).2.2.2
    split at q'
    · rename_i kx x t it ifs as scope pos
      obtain ⟨hot, h0, wi, g, tt, tk, te, ow, h1, h2, h3, h4, h5, h6, h7, h8⟩ := dcomp_parts A T tg own is ic ik ie q
      subst h0
      exact ⟨pe_weak (pe_dc (A.calm hot) (by rw [A.N]; exact A.nd) h1 h2 h3 h4 h5 h6 h7) h8, rfl⟩
    · cases q'

/-! ### every expression -/
theorem snd : ∀ (x : Ex) {n : Nms} (X : Cx) (W : WX), At n S C X W → Tie n S C g0 H0 X W → Snd n S C g0 H0 X W x
  | .var i, _, X, W, A, T => snd_var A i
  | .own i, _, X, W, A, T => snd_own A i
  | .non, _, X, W, A, T => snd_non A
  | .tt b, _, X, W, A, T => snd_tt A b
  | .int i, _, X, W, A, T => snd_int A i
  | .str s, _, X, W, A, T => snd_str A s
  | .con c, _, X, W, A, T => snd_con A c
  | .fnv k, _, X, W, A, T => snd_fnv A k
  | .neg a, _, X, W, A, T => snd_neg A (snd a X W A T)
  | .not a, _, X, W, A, T => snd_not A (snd a X W A T)
  | .bin op a b, _, X, W, A, T => snd_bin A op (snd a X W A T) (snd b X W A T)
  | .cmp op a b, _, X, W, A, T => snd_cmp A op (snd a X W A T) (snd b X W A T)
  | .cmp2 o1 o2 a b c, _, X, W, A, T => snd_cmp2 A o1 o2 (snd a X W A T) (snd b X W A T) (snd c X W A T)
  | .and a b, _, X, W, A, T => snd_and A (snd a X W A T) (snd b X W A T)
  | .or a b, _, X, W, A, T => snd_or A (snd a X W A T) (snd b X W A T)
  | .one a, _, X, W, A, T => snd_one A (snd a X W A T)
  | .ite c a b, _, X, W, A, T => snd_ite A (snd c X W A T) (snd a X W A T) (snd b X W A T)
  | .call k as, _, X, W, A, T => snd_call A T k (snd as X W A T)
  | .callv i m as, _, X, W, A, T => snd_callv A T i m (snd as X W A T)
  | .blt f as, _, X, W, A, T => snd_blt A f (snd as X W A T)
  | .isi a ts, _, X, W, A, T => snd_isi A ts (snd a X W A T)
  | .idx a b, _, X, W, A, T => snd_idx A (snd a X W A T) (snd b X W A T)
  | .slc a lo hi, _, X, W, A, T => snd_slc A (snd a X W A T) (snd lo X W A T) (snd hi X W A T)
  | .rev a, _, X, W, A, T => snd_rev A (snd a X W A T)
  | .tup as, _, X, W, A, T => snd_tup A (snd as X W A T)
  | .lst as, _, X, W, A, T => snd_lst A (snd as X W A T)
  | .comp tg src cnd elt own, _, X, W, A, T => snd_comp A T tg own (snd src X W A T) (snd cnd) (snd elt)
  | .rng1 a, _, X, W, A, T => snd_rng1 A (snd a X W A T)
  | .rng2 a b, _, X, W, A, T => snd_rng2 A (snd a X W A T) (snd b X W A T)
  | .rng3 a b c, _, X, W, A, T => snd_rng3 A (snd a X W A T) (snd b X W A T) (snd c X W A T)
  | .trg m lo hi, _, X, W, A, T => snd_trg A m (snd lo X W A T) (snd hi X W A T)
  | .zip a b, _, X, W, A, T => snd_zip A (snd a X W A T) (snd b X W A T)
  | .enum a, _, X, W, A, T => snd_enum A (snd a X W A T)
  | .lix a b, _, X, W, A, T => snd_lix A (snd a X W A T) (snd b X W A T)
  | .cnt a b, _, X, W, A, T => snd_cnt A (snd a X W A T) (snd b X W A T)
  | .dnew, _, X, W, A, T => snd_dnew A
  | .dgt a k x, _, X, W, A, T => snd_dgt A (snd a X W A T) (snd k X W A T) (snd x X W A T)
  | .dvw b a, _, X, W, A, T => snd_dvw A b (snd a X W A T)
  | .dco tg src cnd ky vl own, _, X, W, A, T => snd_dco A T tg own (snd src X W A T) (snd cnd) (snd ky) (snd vl)
  | .dd1 k v, _, X, W, A, T => snd_dd1 A (snd k X W A T) (snd v X W A T)
  | .isx i c, _, X, W, A, T => snd_isx A T i c
  | .lam j b, _, X, W, A, T => snd_lam A T j (snd b)
  | .thk i, _, X, W, A, T => snd_thk A T i
  | .nil, _, X, W, A, T => snd_nil
  | .cons a b, _, X, W, A, T => snd_cons (snd a X W A T) (snd b X W A T)
end
end Rk

set_option maxHeartbeats 4000000
namespace Rk
open PySem PySem.Spec PyProof.Rows L2

/-! ### the check of statements -/
structure Chs where
  one : Scope → Stmt → Bool
  blk : Scope → List Stmt → Bool
def Chs.ofS (one : Scope → Stmt → Bool) : Chs := ⟨one, fun _ _ => false⟩
def isGhost : Sx → Bool
  | .frz _ => true
  | _ => false
/-- name = [..]: the comprehension's value is stored within its frame -/
def exch (sc : Scope) (y : Str) (py : Pos) (line : Nat) : Expr → Bool
  | .ListComp _ _ scope pos => decide (sc.names.lookup y = some .local) && (py.line == pos.line) && !(scope.names.any fun (n, k) => n == y && (k == .local || k == .cell))
  | _ => false
def bopI : Bop → Bool
  | .add => true
  | .sub => true
  | _ => false
def isTupD : Expr → Bool
  | .Tuple _ _ _ => true
  | _ => false
/-- some target is no plain local: the stores are not exchanged -/
def swOff (sc : Scope) : Expr → Bool
  | .Tuple ts _ _ => ts.any fun
    | .Name y _ => decide (sc.names.lookup y ≠ some .local)
    | _ => true
  | _ => false
def swFar : Expr → Expr → Bool
  | .Tuple ts _ _, .Tuple vs _ _ => !(ts.length == 2 || ts.length == 3) || vs.all (foldedForSure 8)
  | _, _ => false
structure Cns where
  cls : Nat → Option Str
def chkS (n : Nms) (cn : Cns) : Sx → Chs
  | .nil => ⟨fun _ _ => false, fun _ sts => match sts with
      | [] => true
      | _ => false⟩
  | .seq a b => ⟨fun _ _ => false, fun sc sts => if isGhost a then (chkS n cn b).blk sc sts else match sts with
      | [] => false
      | st :: r => (chkS n cn a).one sc st && (chkS n cn b).blk sc r⟩
  | .pass => .ofS fun _ st => match st with
    | .Pass _ => true
    | _ => false
  | .brk => .ofS fun _ st => match st with
    | .Break _ => true
    | _ => false
  | .cnt => .ofS fun _ st => match st with
    | .Continue _ => true
    | _ => false
  | .set m i x => .ofS fun sc st => match st with
    | .Assign [.Name y py] e pos => decide (n.N[i]? = some y) && loc sc y && (chk n x).e sc e && (notComp e || exch sc y py pos.line e || (match e with
        | .ListComp _ _ _ _ => decide (sc.names.lookup y ≠ some .local)
        | _ => false))
    | _ => false
  | .setD i => .ofS fun sc st => match st with
    | .Assign [.Name y _] (.Dict [] [] _) _ => decide (n.N[i]? = some y) && loc sc y
    | _ => false
  | .frz _ => .ofS fun _ _ => false
  | .unp tg x => .ofS fun sc st => match st with
    | .Assign [t] e _ => (tgOk n sc tg).1 t && isTup tg && (chk n x).e sc e && notComp e && (!isTupD e || swOff sc t || swFar t e) && !n.fl.hot
    | _ => false
  | .par3 i a j b k c => .ofS fun sc st => match st with
    | .Assign [.Tuple [.Name x px, .Name y py, .Name z pz] _ _] (.Tuple [e1, e2, e3] _ _) _ => decide (n.N[i]? = some x) && decide (n.N[j]? = some y) && decide (n.N[k]? = some z) && decide (i ≠ j) && decide (i ≠ k) && decide (j ≠ k) && decide (x ≠ y) && decide (x ≠ z) && decide (y ≠ z) &&
        decide (sc.names.lookup x = some .local) && decide (sc.names.lookup y = some .local) && decide (sc.names.lookup z = some .local) && (px.line == py.line) && (px.line == pz.line) && (chk n a).e sc e1 && (chk n b).e sc e2 && (chk n c).e sc e3 && !([e1, e2, e3].all (foldedForSure 8)) && !([e1, e2, e3].all (constantsAlone 8)) && !n.fl.hot
    | _ => false
  | .par m i a k j b => .ofS fun sc st => match st with
    | .Assign [.Tuple [.Name x px, .Name y py] _ _] (.Tuple [e1, e2] _ _) _ => decide (n.N[i]? = some x) && decide (n.N[j]? = some y) && decide (i ≠ j) && decide (x ≠ y) && decide (sc.names.lookup x = some .local) && decide (sc.names.lookup y = some .local) &&
        (px.line == py.line) && (chk n a).e sc e1 && (chk n b).e sc e2 && !([e1, e2].all (foldedForSure 8)) && !([e1, e2].all (constantsAlone 8)) && !n.fl.hot
    | _ => false
  | .aug op i x => .ofS fun sc st => match st with
    | .AugAssign (.Name y _) o e _ => decide (n.N[i]? = some y) && loc sc y && bopI op && (bopP op == o) && (chk n x).e sc e
    | _ => false
  | .app i x => .ofS fun sc st => match st with
    | .Expr (.Call (.Attribute (.Name y _) m ap) [e] [] cp) _ => decide (n.N[i]? = some y) && vis sc y && okName y && decide (m = "append") && (ap.endLine == cp.line) && (chk n x).e sc e
    | _ => false
  | .appP i j x => .ofS fun sc st => match st with
    | .Expr (.Call (.Attribute (.Name y _) m ap) [.Call (.Attribute (.Name z _) m2 ap2) [e] [] cp2] [] cp) _ => decide (n.N[i]? = some y) && vis sc y && okName y && decide (m = "append") && (ap.endLine == cp.line) &&
        decide (n.N[j]? = some z) && vis sc z && okName z && decide (m2 = "pop") && (ap2.endLine == cp2.line) && decide (i ≠ j) && (chk n x).e sc e
    | _ => false
  | .popS i j => .ofS fun sc st => match st with
    | .Assign [.Name x _] (.Call (.Attribute (.Name z _) m2 ap2) [] [] cp2) _ => decide (n.N[i]? = some x) && loc sc x && decide (n.N[j]? = some z) && vis sc z && okName z && decide (m2 = "pop") && (ap2.endLine == cp2.line) && decide (i ≠ j)
    | _ => false
  | .ext i x => .ofS fun sc st => match st with
    | .Expr (.Call (.Attribute (.Name y _) m ap) [e] [] cp) _ => decide (n.N[i]? = some y) && vis sc y && okName y && decide (m = "extend") && (ap.endLine == cp.line) && (chk n x).e sc e
    | _ => false
  | .sto i k x => .ofS fun sc st => match st with
    | .Assign [.Subscript (.Name y _) ki _] e _ => decide (n.N[i]? = some y) && vis sc y && okName y && (chk n k).e sc ki && (chk n x).e sc e && notComp e
    | _ => false
  | .stoD i k x => .ofS fun sc st => match st with
    | .Assign [.Subscript (.Name y _) ki _] e _ => decide (n.N[i]? = some y) && vis sc y && okName y && (chk n k).e sc ki && (chk n x).e sc e && notComp e
    | _ => false
  | .exp x => .ofS fun sc st => match st with
    | .Expr e _ => (chk n x).e sc e && notComp e
    | _ => false
  | .ite c a b => .ofS fun sc st => match st with
    | .If e s1 s2 _ => (chk n c).e sc e && (chkS n cn a).blk sc s1 && (chkS n cn b).blk sc s2
    | _ => false
  | .for_ tg src body => .ofS fun sc st => match st with
    | .For t e b [] _ => (tgOk n sc tg).1 t && (!needTup src || isTup tg) && (chk n src).i sc e && (chkS n cn body).blk sc b && !n.fl.hot
    | _ => false
  | .whl c body => .ofS fun sc st => match st with
    | .While e b [] _ => (chk n c).e sc e && (chkS n cn body).blk sc b
    | _ => false
  | .ret x => .ofS fun sc st => match st with
    | .Return (some e) _ => (chk n x).e sc e
    | _ => false
  | .retN => .ofS fun _ st => match st with
    | .Return none _ => true
    | _ => false
  | .rse c => .ofS fun sc st => match st with
    | .Raise (some (.Call (.Name x _) [] [] _)) none _ => decide (cn.cls c = some x) && glo sc x && !n.fl.hot
    | _ => false
  | .dead => .ofS fun _ _ => true
  | .tri x c i s => .ofS fun sc st => match st with
    | .Try [.Expr e _] [.ExceptHandler (some (.Name y _)) (some z) (b0 :: bs) _] [] [] _ => !n.fl.hot && n.fl.wd && decide (n.cl c = some y) && glo sc y && decide (n.N[i]? = some z) && decide (sc.names.lookup z = some .local) && okName z &&
        (chk { n with fl := { n.fl with tc := true } } x).e sc e && notComp e && (chkS { n with fl := { n.fl with hot := true, tc := false } } cn s).blk sc (b0 :: bs)
    | _ => false

/-! ### what is asked of a statement -/
def KW (C : Cfg) (g0 : Gh) (H0 : Hp) (W : WX) (g : Gh) (D : Ends) : Kont where
  nx := fun ρ => ∀ g' H' σ', Le g g' → Rel C g0 H0 g' H' ρ σ' → D.nx σ' H'
  rt := fun p => ∀ g' H' v, Le g g' → Step C g0 H0 g' H' → RP C g' p v → D.rt v H'
  bk := fun ρ => ∀ g' H' σ', Le g g' → Rel C g0 H0 g' H' ρ σ' → D.bk σ' H'
  ct := fun ρ => ∀ g' H' σ', Le g g' → Rel C g0 H0 g' H' ρ σ' → D.ct σ' H'
  ex := fun x => ∀ g' H' cls d σ', Le g g' → Step C g0 H0 g' H' → RX C x cls d → W cls d σ' H'
def tSt (C : Cfg) (g0 : Gh) (H0 : Hp) (W : WX) (d : Env' → Kont → Prop) : TS := fun D σ H => ∃ g ρ, Rel C g0 H0 g H ρ σ ∧ d ρ (KW C g0 H0 W g D)

section
variable {n : Nms} {cn : Cns} {S : Sig} {C : Cfg} {g0 g g' g1 : Gh} {H0 H H' H1 : Hp} {X : Cx} {W : WX} {ρ : Env'} {σ : L2.St} {a b c as lo hi : Ex} {D D' : Ends}
theorem KW.up (l : Le g g') : Kont.Le (KW C g0 H0 W g D) (KW C g0 H0 W g' D) :=
  ⟨fun ρ h g2 H2 σ2 l2 => h g2 H2 σ2 (l.trans l2), fun p h g2 H2 v l2 => h g2 H2 v (l.trans l2), fun ρ h g2 H2 σ2 l2 => h g2 H2 σ2 (l.trans l2), fun ρ h g2 H2 σ2 l2 => h g2 H2 σ2 (l.trans l2), fun x h g2 H2 cls d σ2 l2 => h g2 H2 cls d σ2 (l.trans l2)⟩
theorem KW.x (r : Rel C g0 H0 g H ρ σ) (l : Le g1 g) {x : Exn} (h : (KW C g0 H0 W g1 D).ex x) : XW C g H W σ x := fun g' H' cls d s rx => h g' H' cls d σ (l.trans s.le) (r.step.trans s) rx

/-- a slot's content is stored -/
theorem Rel.put (r : Rel C g0 H0 g H ρ σ) (i : Nat) {s : Slot} {v : V} (hs : s ≠ .un ∧ (∀ c, s ≠ .ex c) ∧ s ≠ .th) (ok : SlotOk C H0 g H s (some (some v))) (na : s.own = true → ∀ a, v = .ref a → ∀ (j : Nat) x, ρ[j]? = some x → x.own = true → j ≠ i → σ[j]? ≠ some (some (.ref a))) :
    Rel C g0 H0 g H (ρ.set i s) (σ.set i (some v)) := by
  cases s with
  | un => exact absurd rfl hs.1
  | ex c => exact absurd rfl (hs.2.1 c)
  | th => exact absurd rfl hs.2.2
  | fz p =>
    obtain ⟨w, e, rp⟩ := ok
    cases e
    exact r.set i rp
  | ol xs =>
    obtain ⟨a, vs, e, h⟩ := ok
    cases e
    exact r.setOwn i rfl (fun s' e => by rw [e]; exact ⟨a, vs, rfl, h⟩) (na rfl a rfl)
  | od xs =>
    obtain ⟨a, vs, e, h⟩ := ok
    cases e
    exact r.setOwn i rfl (fun s' e => by rw [e]; exact ⟨a, vs, rfl, h⟩) (na rfl a rfl)
theorem NewOk.slot (r : Rel C g0 H0 g1 H1 ρ σ) {s : Slot} {v : V} (h : NewOk C g0 H0 g H H1 s v) : (s ≠ .un ∧ (∀ c, s ≠ .ex c) ∧ s ≠ .th) ∧ SlotOk C H0 g H s (some (some v)) ∧ (s.own = true → ∀ a, v = .ref a → Nt H1 a) := by
  cases s with
  | un => exact h.elim
  | od xs =>
    obtain ⟨a, vs, e, h1, h2, h3, h4, h5⟩ := h
    exact ⟨⟨fun z => (by cases z), fun c z => (by cases z), fun z => (by cases z)⟩, ⟨a, vs, by rw [e], h1, h2, h3, r.step.dom _ h4, h5⟩, fun _ b e' => by rw [e] at e'; cases e'; exact h4⟩
  | ex _ => exact h.elim
  | th => exact h.elim
  | fz p => exact ⟨⟨fun z => (by cases z), fun c z => (by cases z), fun z => (by cases z)⟩, ⟨v, rfl, h⟩, fun z => (by cases z)⟩
  | ol xs =>
    obtain ⟨a, vs, e, h1, h2, h3, h4, h5⟩ := h
    exact ⟨⟨fun z => (by cases z), fun c z => (by cases z), fun z => (by cases z)⟩, ⟨a, vs, by rw [e], h1, h2, h3, r.step.dom _ h4, h5⟩, fun _ b e' => by rw [e] at e'; cases e'; exact h4⟩
/-- a list of a name's own is written -/
theorem Rel.wrL (r : Rel C g0 H0 g H ρ σ) {i : Nat} {xs ys : List PV} {a : Addr} {vs ws : List V} (e : ρ[i]? = some (.ol xs)) (es : σ[i]? = some (some (.ref a))) (h : H a = some (.lst vs)) (rp : RPs C g ys ws) :
    Rel C g0 H0 g (upd H a (.lst ws)) (ρ.set i (.ol ys)) σ := by
  obtain ⟨a', vs', e1, h1, h2, h3, h4, h5⟩ := r.at_ i _ e
  rw [es] at e1
  cases e1
  have il : i < ρ.length := (List.getElem?_eq_some_iff.mp e).1
  refine ⟨r.step.write h (fun ps z => (by cases z)) (fun φ z => (by cases z)) h4 h3 h5, by simpa using r.len, fun j x ej => ?_, fun j k x y b e1 e2 o1 o2 s1 s2 => ?_⟩
  · by_cases hj : i = j
    · subst hj
      rw [List.getElem?_set_self il] at ej
      cases ej
      exact ⟨a, ws, es, upd_same, rp, h3, h4, h5⟩
    · rw [List.getElem?_set_ne hj] at ej
      have q := r.at_ j x ej
      cases x with
      | un => trivial
      | ex k => exact q
      | th => exact q
      | fz p => exact q
      | ol zs =>
        obtain ⟨b, us, e2, k1, k2, k3, k4, k5⟩ := q
        have ne : b ≠ a := fun z => hj (r.inj i j _ _ a e ej rfl rfl es (by rw [e2, z]))
        exact ⟨b, us, e2, by rw [upd_ne ne]; exact k1, k2, k3, k4, k5⟩
      | od zs =>
        obtain ⟨b, us, e2, k1, k2, k3, k4, k5⟩ := q
        have ne : b ≠ a := fun z => hj (r.inj i j _ _ a e ej rfl rfl es (by rw [e2, z]))
        exact ⟨b, us, e2, by rw [upd_ne ne]; exact k1, k2, k3, k4, k5⟩
  · have at1 : ∀ {j : Nat} {x : Slot}, (ρ.set i (.ol ys))[j]? = some x → x.own = true → ∃ x' : Slot, ρ[j]? = some x' ∧ x'.own = true := fun {j x} ej o => by
      by_cases hj : i = j
      · subst hj
        exact ⟨_, e, rfl⟩
      · rw [List.getElem?_set_ne hj] at ej
        exact ⟨x, ej, o⟩
    obtain ⟨x', e1', o1'⟩ := at1 e1 o1
    obtain ⟨y', e2', o2'⟩ := at1 e2 o2
    exact r.inj j k x' y' b e1' e2' o1' o2' s1 s2
/-- a dict of a name's own is written -/
theorem Rel.wrD (r : Rel C g0 H0 g H ρ σ) {i : Nat} {xs ys : List (Key × PV)} {a : Addr} {vs ws : List (Key × V)} (e : ρ[i]? = some (.od xs)) (es : σ[i]? = some (some (.ref a))) (h : H a = some (.dK vs)) (rp : RPk C g ys ws) :
    Rel C g0 H0 g (upd H a (.dK ws)) (ρ.set i (.od ys)) σ := by
  obtain ⟨a', vs', e1, h1, h2, h3, h4, h5⟩ := r.at_ i _ e
  rw [es] at e1
  cases e1
  have il : i < ρ.length := (List.getElem?_eq_some_iff.mp e).1
  refine ⟨r.step.write h (fun ps z => (by cases z)) (fun φ z => (by cases z)) h4 h3 h5, by simpa using r.len, fun j x ej => ?_, fun j k x y b e1 e2 o1 o2 s1 s2 => ?_⟩
  · by_cases hj : i = j
    · subst hj
      rw [List.getElem?_set_self il] at ej
      cases ej
      exact ⟨a, ws, es, upd_same, rp, h3, h4, h5⟩
    · rw [List.getElem?_set_ne hj] at ej
      have q := r.at_ j x ej
      cases x with
      | un => trivial
      | ex k => exact q
      | th => exact q
      | fz p => exact q
      | ol zs =>
        obtain ⟨b, us, e2, k1, k2, k3, k4, k5⟩ := q
        have ne : b ≠ a := fun z => hj (r.inj i j _ _ a e ej rfl rfl es (by rw [e2, z]))
        exact ⟨b, us, e2, by rw [upd_ne ne]; exact k1, k2, k3, k4, k5⟩
      | od zs =>
        obtain ⟨b, us, e2, k1, k2, k3, k4, k5⟩ := q
        have ne : b ≠ a := fun z => hj (r.inj i j _ _ a e ej rfl rfl es (by rw [e2, z]))
        exact ⟨b, us, e2, by rw [upd_ne ne]; exact k1, k2, k3, k4, k5⟩
  · have at1 : ∀ {j : Nat} {x : Slot}, (ρ.set i (.od ys))[j]? = some x → x.own = true → ∃ x' : Slot, ρ[j]? = some x' ∧ x'.own = true := fun {j x} ej o => by
      by_cases hj : i = j
      · subst hj
        exact ⟨_, e, rfl⟩
      · rw [List.getElem?_set_ne hj] at ej
        exact ⟨x, ej, o⟩
    obtain ⟨x', e1', o1'⟩ := at1 e1 o1
    obtain ⟨y', e2', o2'⟩ := at1 e2 o2
    exact r.inj j k x' y' b e1' e2' o1' o2' s1 s2
/-- a list of a name's own is frozen -/
theorem Rel.frzL (r : Rel C g0 H0 g H ρ σ) {i : Nat} {xs : List PV} (e : ρ[i]? = some (.ol xs)) : ∃ g', Le g g' ∧ Rel C g0 H0 g' H (ρ.set i (.fz (.lst xs))) σ := by
  obtain ⟨a, vs, es, h1, h2, h3, h4, h5⟩ := r.at_ i _ e
  have st := r.step.frz h1 h4 h5
  have l : Le g (g.put a (.lst vs)) := ⟨fun b o q => (by
    show upd g.G a (.lst vs) b = some o
    rw [upd_ne (fun z => (by rw [z, h3] at q; cases q))]
    exact q), fun _ q => q⟩
  have il : i < ρ.length := (List.getElem?_eq_some_iff.mp e).1
  refine ⟨_, l, st, by simpa using r.len, fun j x ej => ?_, fun j k x y b e1 e2 o1 o2 s1 s2 => ?_⟩
  · by_cases hj : i = j
    · subst hj
      rw [List.getElem?_set_self il] at ej
      cases ej
      exact ⟨_, es, a, vs, rfl, upd_same, RPs.up l _ _ h2⟩
    · rw [List.getElem?_set_ne hj] at ej
      have q := r.at_ j x ej
      cases x with
      | un => trivial
      | ex k => exact q
      | th => exact q
      | fz p =>
        obtain ⟨v, e1, rp⟩ := q
        exact ⟨v, e1, RP.up l _ _ rp⟩
      | ol zs =>
        obtain ⟨b, us, e2, k1, k2, k3, k4, k5⟩ := q
        have ne : b ≠ a := fun z => hj (r.inj i j _ _ a e ej rfl rfl es (by rw [e2, z]))
        refine ⟨b, us, e2, k1, RPs.up l _ _ k2, ?_, k4, k5⟩
        show upd g.G a (.lst vs) b = none
        rw [upd_ne ne]
        exact k3
      | od zs =>
        obtain ⟨b, us, e2, k1, k2, k3, k4, k5⟩ := q
        have ne : b ≠ a := fun z => hj (r.inj i j _ _ a e ej rfl rfl es (by rw [e2, z]))
        refine ⟨b, us, e2, k1, RPk.up l _ _ k2, ?_, k4, k5⟩
        show upd g.G a (.lst vs) b = none
        rw [upd_ne ne]
        exact k3
  · have at1 : ∀ {j : Nat} {x : Slot}, (ρ.set i (.fz (.lst xs)))[j]? = some x → x.own = true → ρ[j]? = some x := fun {j x} ej o => by
      by_cases hj : i = j
      · subst hj
        rw [List.getElem?_set_self il] at ej
        cases ej
        cases o
      · rw [List.getElem?_set_ne hj] at ej
        exact ej
    exact r.inj j k x y b (at1 e1 o1) (at1 e2 o2) o1 o2 s1 s2
/-- a dict of a name's own is frozen: locked from here on -/
theorem Rel.frzD (r : Rel C g0 H0 g H ρ σ) {i : Nat} {xs : List (Key × PV)} (e : ρ[i]? = some (.od xs)) : ∃ a vs, H a = some (.dK vs) ∧ ∀ od, ∃ g', Le g g' ∧ Rel C g0 H0 g' (upd H a (.frz od (.dK vs))) (ρ.set i (.fz (.dct xs))) σ := by
  obtain ⟨a, vs, es, h1, h2, h3, h4, h5⟩ := r.at_ i _ e
  refine ⟨a, vs, h1, fun od => ?_⟩
  have s1 := r.step.write (o' := .frz od (.dK vs)) h1 (fun ps z => (by cases z)) (fun φ z => (by cases z)) h4 h3 h5
  have st := s1.frzO (a := a) upd_same (fun ps z => (by cases z)) h4 h5
  have l : Le g (g.put a (.frz od (.dK vs))) := ⟨fun b o q => (by
    show upd g.G a (.frz od (.dK vs)) b = some o
    rw [upd_ne (fun z => (by rw [z, h3] at q; cases q))]
    exact q), fun _ q => q⟩
  have il : i < ρ.length := (List.getElem?_eq_some_iff.mp e).1
  refine ⟨_, l, st, by simpa using r.len, fun j x ej => ?_, fun j k x y b e1 e2 o1 o2 s1 s2 => ?_⟩
  · by_cases hj : i = j
    · subst hj
      rw [List.getElem?_set_self il] at ej
      cases ej
      exact ⟨_, es, a, vs, od, rfl, upd_same, RPk.up l _ _ h2⟩
    · rw [List.getElem?_set_ne hj] at ej
      have q := r.at_ j x ej
      cases x with
      | un => trivial
      | ex k => exact q
      | th => exact q
      | fz p =>
        obtain ⟨v, e1, rp⟩ := q
        exact ⟨v, e1, RP.up l _ _ rp⟩
      | ol zs =>
        obtain ⟨b, us, e2, k1, k2, k3, k4, k5⟩ := q
        have ne : b ≠ a := fun z => hj (r.inj i j _ _ a e ej rfl rfl es (by rw [e2, z]))
        refine ⟨b, us, e2, by rw [upd_ne ne]; exact k1, RPs.up l _ _ k2, ?_, k4, k5⟩
        show upd g.G a (.frz od (.dK vs)) b = none
        rw [upd_ne ne]
        exact k3
      | od zs =>
        obtain ⟨b, us, e2, k1, k2, k3, k4, k5⟩ := q
        have ne : b ≠ a := fun z => hj (r.inj i j _ _ a e ej rfl rfl es (by rw [e2, z]))
        refine ⟨b, us, e2, by rw [upd_ne ne]; exact k1, RPk.up l _ _ k2, ?_, k4, k5⟩
        show upd g.G a (.frz od (.dK vs)) b = none
        rw [upd_ne ne]
        exact k3
  · have at1 : ∀ {j : Nat} {x : Slot}, (ρ.set i (.fz (.dct xs)))[j]? = some x → x.own = true → ρ[j]? = some x := fun {j x} ej o => by
      by_cases hj : i = j
      · subst hj
        rw [List.getElem?_set_self il] at ej
        cases ej
        cases o
      · rw [List.getElem?_set_ne hj] at ej
        exact ej
    exact r.inj j k x y b (at1 e1 o1) (at1 e2 o2) o1 o2 s1 s2
end
end Rk

set_option maxHeartbeats 4000000
namespace Rk
open PySem PySem.Spec PyProof.Rows L2

/-- the program's own errors, made with nothing -/
structure Crs (cn : Cns) (C : Cfg) (mg : Str → Option Value) : Prop where
  own : ∀ c x, cn.cls c = some x → ∃ (a : Addr) (bmB : List Value) (B newId initId : String), ExcBaseFacts B newId initId bmB ∧ PySem.W.excIn C.K a bmB newId = true ∧ mg x = some (.ref a) ∧ PySem.W.keepIn C.K (.ref a) = true ∧
    PySem.W.subIn C.K (.ref a) (.type "BaseException") = some true ∧ PySem.W.typeIn C.K (.ref a) = some (.type "type") ∧ C.ca c = some a
structure AtS (n : Nms) (S : Sig) (C : Cfg) (cn : Cns) (X : Cx) (W : WX) : Prop extends At n S C X W where
  hp : PassesOwn (model X.prog X.w) X.A X.env X.xe
  fn : ∀ x, X.fn x = true
  kd : X.env.blockKind = .function
  cr : Crs cn C X.mg
  stk : n.fl.hot = false → X.stack = X.env :: X.outer
  frm : X.env.frame = some X.env.locals

/-- as Tie, and what a call of what was handed asks in a try's body -/
structure TieS (n : Nms) (S : Sig) (C : Cfg) (g0 : Gh) (H0 : Hp) (X : Cx) (W : WX) : Prop extends Tie n S C g0 H0 X W where
  tr : n.fl.hot = false → n.fl.wd = true → ∀ (pn : List (Addr × Obj)) (xe : Value → Shared → Prop) (W' : WX), Takes (X.tr pn xe) W' → ∀ f, g0.F = some f → ∀ x p1 p2, X.N[0]? = some x → PE (X.tr pn xe) (.Call (.Name x p1) [] [] p2) (thR C g0 H0 S.tk f 0 W')
section
variable {X : Cx} {C : Addr} {bmB : List Value} {B newId initId : String}
/-- X() -/
theorem pmk_own0 {x : Str} {p pos : Pos} (F : ExcBaseFacts B newId initId bmB) (q : PySem.W.excIn X.K C bmB newId = true) (gC : X.mg x = some (.ref C)) (kC : PySem.W.keepIn X.K (.ref C) = true) (r : Raises X (.ref C)) (hg : Gl X x)
    (hdb : (x == ("__debug__" : Str)) = false) : PMk X (.Call (.Name x p) [] [] pos) (fun _ H Q => Q (.ref C) none H) := by
  intro pins s σ H Q I h
  refine wpAny_Call_Name_kw (ld_glob I hg gC ?_ hdb)
  refine PySem.W.callWith_K0 I.kIn kC ?_
  obtain ⟨bm, N, nm, qn, bs, hdct, sn, sub, ab, col, dd, k0, k1, k2, k3, k5, mN, hC, hN, hni, T⟩ := exc_obj I.kIn q
  refine wpAny_call_exc_subT F T hC hN hni (fun h' e hm => ?_) (by simp)
  exact mk_of I hm r h (I.hok.gone hm.new)
end

theorem sw_no {e : Expr} {t : Option Expr} {l : Nat} {env : Env} (h : notComp e = true) : swapsWith e t l env = pure false := by
  cases e <;> first | rfl | (simp only [notComp] at h; cases h)
theorem sw_exch {e : Expr} {y : Str} {py : Pos} {l : Nat} {env : Env} (hk : env.blockKind = .function) (h : exch env.scope y py l e = true) : swapsWith e (some (.Name y py)) l env = pure true := by
  cases e <;> first | (simp only [exch] at h; cases h; done) | skip
  simp only [exch, Bool.and_eq_true, decide_eq_true_eq] at h
  obtain ⟨⟨h1, h2⟩, h3⟩ := h
  unfold swapsWith
  simp only [hk, Env.kindOf, h1, pure_bind, Expr.pos, h2, h3]
  rfl
theorem sw_off {y : Str} {py : Pos} {l : Nat} {env : Env} {x : Expr} {gs : List Comprehension} {sc : Scope} {pos : Pos} (h : env.scope.names.lookup y ≠ some .local) : swapsWith (.ListComp x gs sc pos) (some (.Name y py)) l env = pure false := by
  unfold swapsWith
  have h2 : (List.lookup y env.scope.names == some NameKind.local) = false := by
    rw [beq_eq_false_iff_ne]
    exact h
  simp only [Env.kindOf, pure_bind, h2, Bool.and_false, Bool.false_and]
theorem sw_tup {es : List Expr} {k : Nat} {pos : Pos} {e : Expr} {env : Env} (h : isTupD e = false) : swappedStores [.Tuple es k pos] e env = pure none := by
  cases e <;> first | rfl | (simp only [isTupD] at h; cases h)
theorem filterMap_short {α β : Type} {f : α → Option β} : ∀ {l : List α}, (∃ x, x ∈ l ∧ f x = none) → (l.filterMap f).length < l.length
  | [], ⟨x, h, _⟩ => by cases h
  | y :: l, ⟨x, h, e⟩ => by
    have le : (l.filterMap f).length ≤ l.length := List.length_filterMap_le _ _
    rw [List.filterMap_cons]
    rcases List.mem_cons.mp h with rfl | h
    · rw [e]
      exact Nat.lt_succ_of_le le
    · have ih := filterMap_short ⟨x, h, e⟩
      cases f y with
      | none => exact Nat.lt_succ_of_le le
      | some z =>
        simp only [List.length_cons]
        omega
theorem sw_cells {es : List Expr} {k : Nat} {pos : Pos} {e : Expr} {env : Env} (h : swOff env.scope (.Tuple es k pos) = true) : swappedStores [.Tuple es k pos] e env = pure none := by
  cases hb : isTupD e with
  | false => exact sw_tup hb
  | true =>
    cases e <;> first | (cases hb; done) | skip
    rename_i vs k2 p2
    unfold swappedStores
    simp only [pure_bind]
    split
    · rfl
    · split
      · rfl
      · rw [if_pos]
        simp only [Bool.or_eq_true, bne_iff_ne, ne_eq]
        refine .inl ?_
        simp only [swOff, List.any_eq_true] at h
        obtain ⟨t, ht, hz⟩ := h
        refine Nat.ne_of_lt (filterMap_short ⟨t, ht, ?_⟩)
        cases t <;> first | rfl | skip
        rename_i y yp
        have hz : List.lookup y env.scope.names ≠ some .local := by simpa using hz
        have h2 : (List.lookup y env.scope.names == some NameKind.local) = false := by
          rw [beq_eq_false_iff_ne]
          exact hz
        simp only [Env.kindOf, h2, Bool.false_and]
        rfl
theorem par_sw {x y : Str} {px py pt pt2 : Pos} {kt k2 : Nat} {a b : Expr} {env : Env} (hk : env.blockKind = .function) (hx : env.scope.names.lookup x = some .local) (hy : env.scope.names.lookup y = some .local) (hne : x ≠ y) (hl : (px.line == py.line) = true)
    (hs1 : notStar a = true) (hs2 : notStar b = true) (h1 : [a, b].all (foldedForSure 8) = false) (h2 : [a, b].all (constantsAlone 8) = false) :
    swappedStores [.Tuple [.Name x px, .Name y py] kt pt] (.Tuple [a, b] k2 pt2) env = pure (some [x, y]) := by
  have hst : ([a, b].any fun | .Starred .. => true | _ => false) = false := by
    cases a <;> first | (cases hs1; done) | skip
    all_goals (cases b <;> first | (cases hs2; done) | rfl)
  have hl2 : (py.line == px.line) = true := by
    rw [beq_iff_eq] at hl ⊢
    exact hl.symm
  have hd : ([x, y].eraseDups.length != [x, y].length) = false := by
    have e : (y == x) = false := by
      rw [beq_eq_false_iff_ne]
      exact fun z => hne z.symm
    simp [List.eraseDups_cons, e]
  unfold swappedStores
  simp only [pure_bind, hk]
  rw [if_neg (by simp only [List.length_cons, List.length_nil]; decide), if_neg (by rw [Bool.not_eq_true]; exact hst)]
  simp only [List.filterMap_cons, List.filterMap_nil, Env.kindOf, hx, hy, hl2, beq_self_eq_true, Bool.and_self, if_true, Expr.pos, List.head?_cons, Option.map_some, Option.getD_some]
  rw [hd, h1, h2]
  rfl
theorem sw_far {es : List Expr} {k : Nat} {pos : Pos} {e : Expr} {env : Env} (h : swFar (.Tuple es k pos) e = true) : swappedStores [.Tuple es k pos] e env = pure none := by
  cases e <;> first | (cases h; done) | skip
  rename_i vs k2 p2
  simp only [swFar, Bool.or_eq_true] at h
  unfold swappedStores
  simp only [pure_bind]
  split
  · rfl
  · rename_i h1
    rcases h with h | h
    · refine absurd ?_ h1
      simp only [Bool.or_eq_true]
      exact .inl (.inl h)
    · split
      · rfl
      · split
        · rfl
        · first | rfl | rw [if_pos h]
theorem par3_sw {x y z : Str} {px py pz pt pt2 : Pos} {kt k2 : Nat} {a b c : Expr} {env : Env} (hk : env.blockKind = .function) (hx : env.scope.names.lookup x = some .local) (hy : env.scope.names.lookup y = some .local) (hz : env.scope.names.lookup z = some .local) (hxy : x ≠ y) (hxz : x ≠ z) (hyz : y ≠ z) (hl : (px.line == py.line) = true) (hl3 : (px.line == pz.line) = true)
    (hs1 : notStar a = true) (hs2 : notStar b = true) (hs3 : notStar c = true) (h1 : [a, b, c].all (foldedForSure 8) = false) (h2 : [a, b, c].all (constantsAlone 8) = false) :
    swappedStores [.Tuple [.Name x px, .Name y py, .Name z pz] kt pt] (.Tuple [a, b, c] k2 pt2) env = pure (some [x, y, z]) := by
  have no : ∀ e : Expr, notStar e = true → (match e with | .Starred .. => true | _ => false) = false := fun e h => by
    cases e <;> first | (cases h; done) | rfl
  have hst : ([a, b, c].any fun | .Starred .. => true | _ => false) = false := by
    simp only [List.any_cons, List.any_nil, no a hs1, no b hs2, no c hs3, Bool.or_self]
  have hl2 : (py.line == px.line) = true := by
    rw [beq_iff_eq] at hl ⊢
    exact hl.symm
  have hl4 : (pz.line == px.line) = true := by
    rw [beq_iff_eq] at hl3 ⊢
    exact hl3.symm
  have hd : ([x, y, z].eraseDups.length != [x, y, z].length) = false := by
    have e : (y == x) = false := by
      rw [beq_eq_false_iff_ne]
      exact fun z => hxy z.symm
    have e2 : (z == x) = false := by
      rw [beq_eq_false_iff_ne]
      exact fun q => hxz q.symm
    have e3 : (z == y) = false := by
      rw [beq_eq_false_iff_ne]
      exact fun q => hyz q.symm
    simp [List.eraseDups_cons, e, e2, e3]
  unfold swappedStores
  simp only [pure_bind, hk]
  rw [if_neg (by simp only [List.length_cons, List.length_nil]; decide), if_neg (by rw [Bool.not_eq_true]; exact hst)]
  simp only [List.filterMap_cons, List.filterMap_nil, Env.kindOf, hx, hy, hz, hl2, hl4, beq_self_eq_true, Bool.and_self, if_true, Expr.pos, List.head?_cons, Option.map_some, Option.getD_some]
  rw [hd, h1, h2]
  rfl
end Rk

set_option maxHeartbeats 4000000
namespace Rk
open PySem PySem.Spec PyProof.Rows L2

structure Sns (n : Nms) (cn : Cns) (S : Sig) (C : Cfg) (g0 : Gh) (H0 : Hp) (X : Cx) (W : WX) (x : Sx) : Prop where
  one : ∀ st, (chkS n cn x).one X.env.scope st = true → PS X st (tSt C g0 H0 W (wpS S x))
  blk : ∀ sts, (chkS n cn x).blk X.env.scope sts = true → PSs X sts (tSt C g0 H0 W (wpS S x))

section
variable {n : Nms} {cn : Cns} {S : Sig} {C : Cfg} {g0 g g' g1 : Gh} {H0 H H' H1 : Hp} {X : Cx} {W : WX} {ρ : Env'} {σ : L2.St} {a b c x k : Ex} {D D' : Ends} {s s1 s2 : Sx}

theorem Sns.ofS {f : Scope → Stmt → Bool} {x : Sx} (hf : chkS n cn x = Chs.ofS f) (h : ∀ st, f X.env.scope st = true → PS X st (tSt C g0 H0 W (wpS S x))) : Sns n cn S C g0 H0 X W x where
  one := fun st q => h st (by rw [hf] at q; exact q)
  blk := fun sts q => by
    rw [hf] at q
    cases q
theorem KW.rt_ (D : Ends) {R : PV → Prop} : True := trivial

theorem sns_nil : Sns n cn S C g0 H0 X W .nil where
  one := fun st q => by cases q
  blk := fun sts q => by
    cases sts with
    | cons _ _ => cases q
    | nil => exact pss_weak pss_nil fun D σ H ⟨g, ρ, rel, h⟩ => h g H σ (Le.refl g) rel
theorem sns_pass : Sns n cn S C g0 H0 X W .pass := Sns.ofS rfl fun st q => by
  split at q
  · exact ps_weak ps_pass fun D σ H ⟨g, ρ, rel, h⟩ => h g H σ (Le.refl g) rel
  · cases q
theorem sns_brk : Sns n cn S C g0 H0 X W .brk := Sns.ofS rfl fun st q => by
  split at q
  · exact ps_weak ps_break fun D σ H ⟨g, ρ, rel, h⟩ => h g H σ (Le.refl g) rel
  · cases q
theorem sns_cnt : Sns n cn S C g0 H0 X W .cnt := Sns.ofS rfl fun st q => by
  split at q
  · exact ps_weak ps_continue fun D σ H ⟨g, ρ, rel, h⟩ => h g H σ (Le.refl g) rel
  · cases q
theorem sns_retN : Sns n cn S C g0 H0 X W .retN := Sns.ofS rfl fun st q => by
  split at q
  · exact ps_weak ps_retN fun D σ H ⟨g, ρ, rel, h⟩ => h g H .non (Le.refl g) rel.step rfl
  · cases q
theorem sns_ret (A : AtS n S C cn X W) (ix : Snd n S C g0 H0 X W x) : Sns n cn S C g0 H0 X W (.ret x) := Sns.ofS rfl fun st q => by
  split at q
  · rename_i e pos
    refine ps_weak (ps_ret (ix.e e q)) fun D σ H ⟨g, ρ, rel, h⟩ => ?_
    exact tE_in (den_mono S x) rel h (fun p g' H' v s rel' rp h => h g' H' v s.le rel'.step rp) fun y hy => KW.x rel (Le.refl g) hy
  · cases q
theorem sns_exp (A : AtS n S C cn X W) (ix : Snd n S C g0 H0 X W x) : Sns n cn S C g0 H0 X W (.exp x) := Sns.ofS rfl fun st q => by
  split at q
  · rename_i e pos
    simp only [Bool.and_eq_true] at q
    refine ps_weak (ps_expr (ix.e e q.1) (sw_no q.2)) fun D σ H ⟨g, ρ, rel, h⟩ => ?_
    exact tE_in (den_mono S x) rel h (fun p g' H' v s rel' rp h => h g' H' σ s.le rel') fun y hy => KW.x rel (Le.refl g) hy
  · cases q
theorem sns_rse (A : AtS n S C cn X W) (c : Nat) : Sns n cn S C g0 H0 X W (.rse c) := Sns.ofS rfl fun st q => by
  split at q
  · rename_i y p cp pos
    simp only [Bool.and_eq_true, decide_eq_true_eq, Bool.not_eq_true'] at q
    obtain ⟨hg, ok⟩ := glo_Gl (X := X) q.1.2
    obtain ⟨a, bmB, B, newId, initId, F, h1, h2, h3, h4, h5, h6⟩ := A.cr.own c y q.1.1
    rw [← A.K] at h1 h3 h4 h5
    refine ps_weak (ps_raise (A.calm q.2) A.tk (pmk_own0 F h1 h2 h3 (raises_own h4 h5) hg (okName_db ok).1)) fun D σ H ⟨g, ρ, rel, h⟩ => ?_
    exact h g H (.ref a) none σ (Le.refl g) rel.step ⟨⟨a, h6, rfl⟩, rfl, rfl⟩
  · cases q
theorem tS_slot (rel : Rel C g0 H0 g H ρ σ) {m : Bool} {i : Nat} {F : Env' → Prop} {Q : VK} (h : (den S x).s m ρ (fun s => F (ρ.set i s)) (KW C g0 H0 W g D).ex)
    (hF : ∀ ρ', F ρ' → ∀ g' H' σ', Le g g' → Rel C g0 H0 g' H' ρ' σ' → D.nx σ' H') : tS C g0 H0 W ((den S x).s m) σ H fun v H' => D.nx (σ.set i (some v)) H' := by
  refine ⟨g, ρ, rel, (den_mono S x).s (fun s hs g' H' v st nk => ?_) (fun y hy => KW.x rel (Le.refl g) hy) h⟩
  have rel' := rel.go st
  obtain ⟨n1, n2, n3⟩ := NewOk.slot rel nk
  refine hF _ hs g' H' _ st.le (rel'.put i n1 n2 fun o a e j x ej oj ne => ?_)
  exact rel.fresh_own (n3 o a e) ej oj
theorem sns_set (A : AtS n S C cn X W) (T : Tie n S C g0 H0 X W) (m : Bool) (i : Nat) (ix : Snd n S C g0 H0 X W x) (xp : ∀ {tg src cnd elt own}, x = .comp tg src cnd elt own → Snd n S C g0 H0 X W src ∧ (∀ X W, At n S C X W → Tie n S C g0 H0 X W → Snd n S C g0 H0 X W cnd) ∧ (∀ X W, At n S C X W → Tie n S C g0 H0 X W → Snd n S C g0 H0 X W elt)) : Sns n cn S C g0 H0 X W (.set m i x) := Sns.ofS rfl fun st q => by
  split at q
  · rename_i y py e pos
    simp only [Bool.and_eq_true, decide_eq_true_eq] at q
    obtain ⟨⟨⟨h1, h2⟩, h3⟩, h4⟩ := q
    have hN : X.N.Nodup := by rw [A.N]; exact A.nd
    have hi : X.N[i]? = some y := by rw [A.N]; exact h1
    have plain : swapsWith e (some (.Name y py)) pos.line X.env = pure false → PS X (.Assign [.Name y py] e pos) (tSt C g0 H0 W (wpS S (.set m i x))) := fun hs => by
      refine ps_weak (ps_set hN hi (loc_Loc h2) (ix.s m e h3) hs (.inl (A.fn y))) fun D σ H ⟨g, ρ, rel, h⟩ => ?_
      exact tS_slot (Q := fun _ _ => True) rel h fun ρ' h => h
    by_cases hc : notComp e = true
    · exact plain (sw_no hc)
    · by_cases he : exch X.env.scope y py pos.line e = true
      · have hsw := sw_exch A.kd he
        cases e <;> first | (simp only [exch] at he; cases he; done) | skip
        rename_i elt' gs scope lpos
        have hyl : X.env.scope.names.lookup y = some .local := by
          simp only [exch, Bool.and_eq_true, decide_eq_true_eq] at he
          exact he.1.1
        cases x <;> first | exact Bool.noConfusion (show false = true from h3) | skip
        rename_i tg src cnd elt own
        obtain ⟨is, ic, ie⟩ := xp rfl
        have h30 := (chk_ofE h3).2.2.2
        cases gs with
        | nil => exact Bool.noConfusion (show false = true from h30)
        | cons gh rest =>
          obtain ⟨t, it, ifs, as⟩ := gh
          cases rest with
          | cons _ _ => exact Bool.noConfusion (show false = true from h30)
          | nil =>
            obtain ⟨hot, e0, wi, g1, tt, te, ow, p1, p2, p3, p4, p5, p6, p7⟩ := comp_parts A.toAt T tg own is ic ie h3
            subst e0
            refine ps_weak (ps_setLc (A.calm hot) hN hi hyl hsw p1 p2 p3 p4 p5 p6) fun D σ H ⟨g, ρ, rel, h⟩ => ?_
            have h : (den S (.comp tg src cnd elt own)).e ρ (fun p => asOwn m p fun s => (KW C g0 H0 W g D).nx (ρ.set i s)) (KW C g0 H0 W g D).ex := h
            refine p7 _ _ _ ⟨g, ρ, rel, (den_mono S (.comp tg src cnd elt own)).e (fun p ⟨hp, hl⟩ g' H' v st rn => ?_) (fun y hy => KW.x rel (Le.refl g) hy) (comp_lst h)⟩
            have fin : ∀ {s' : Slot} {g2 : Gh}, Step C g H g2 H' → NewOk C g0 H0 g2 H' H s' v → (KW C g0 H0 W g D).nx (ρ.set i s') → D.nx (σ.set i (some v)) H' := fun {s' g2} st2 nk hn => by
              have rel' := rel.go st2
              obtain ⟨n1, n2, n3⟩ := NewOk.slot rel nk
              refine hn g2 H' _ st2.le (rel'.put i n1 n2 fun o a e j x ej oj ne => ?_)
              exact rel.fresh_own (n3 o a e) ej oj
            cases m with
            | true =>
              obtain ⟨ys, rfl⟩ := hl
              exact fin (s' := .ol _) st rn hp
            | false =>
              obtain ⟨g2, s2, rp⟩ := rn.val st (fun _ z => by rw [z] at hl; obtain ⟨_, hl⟩ := hl; cases hl)
              exact fin (s' := .fz p) s2 rp hp
      · have hc : notComp e = false := by simpa using hc
        have he : exch X.env.scope y py pos.line e = false := by simpa using he
        rw [hc, he] at h4
        simp only [Bool.or_false, Bool.false_or] at h4
        split at h4
        · simp only [decide_eq_true_eq] at h4
          exact plain (sw_off h4)
        · cases h4
  · cases q
theorem sns_setD (A : AtS n S C cn X W) (i : Nat) : Sns n cn S C g0 H0 X W (.setD i) := Sns.ofS rfl fun st q => by
  split at q
  · rename_i y py dp pos
    simp only [Bool.and_eq_true, decide_eq_true_eq] at q
    have hN : X.N.Nodup := by rw [A.N]; exact A.nd
    have hi : X.N[i]? = some y := by rw [A.N]; exact q.1
    refine ps_weak (ps_set hN hi (loc_Loc q.2) pe_dnewK (sw_no rfl) (.inl (A.fn y))) fun D σ H ⟨g, ρ, rel, h⟩ => ?_
    intro p np
    have st := Step.lay (o := .dK []) rel.w np
    have rel' := rel.go st
    exact h g _ _ (Le.refl g) (rel'.setOwn i (s := .od []) rfl (fun s' e => by rw [e]; exact ⟨p, [], rfl, upd_same, rfl, rel.w.none_of np, rel.step.dom _ (.of np), rel.w.free_new np⟩) fun j x ej oj ne => rel.fresh_own (.of np) ej oj)
  · cases q
theorem sns_unp (A : AtS n S C cn X W) (tg : Tg) (ix : Snd n S C g0 H0 X W x) : Sns n cn S C g0 H0 X W (.unp tg x) := Sns.ofS rfl fun st q => by
  split at q
  · rename_i t e pos
    simp only [Bool.and_eq_true, Bool.or_eq_true, Bool.not_eq_true'] at q
    obtain ⟨⟨⟨⟨⟨h1, h2⟩, h3⟩, h4⟩, h5⟩, hot⟩ := q
    have hT : ∀ y, loc X.env.scope y = true → Loc X.env.scope y ∧ (X.fn y = true ∨ X.env.scope.names.lookup y = some .local) := fun y hy => ⟨loc_Loc hy, .inl (A.fn y)⟩
    have hg := (pg_of (C := C) (g0 := g0) (H0 := H0) A.N A.nd A.K (A.calm hot) hT tg).1 t h1
    cases tg <;> first | (cases h2; done) | skip
    cases t <;> first | exact Bool.noConfusion (show false = true from h1) | skip
    refine ps_weak (ps_asg (ix.e e h3) hg (by unfold swapsWithSole; exact sw_no h4) (by rcases h5 with (h5 | h5) | h5; exact sw_tup h5; exact sw_cells h5; exact sw_far h5) rfl) fun D σ H ⟨g, ρ, rel, h⟩ => ?_
    refine tE_in (den_mono S x) rel h (fun p g' H' v s rel' rp h => ?_) fun y hy => KW.x rel (Le.refl g) hy
    exact ⟨g', p, ρ, rel', rp, (tgW_mono _).one (fun ρ' h σ' rel2 so => h g' H' σ' s.le rel2) h⟩
  · cases q
theorem sns_par3 (A : AtS n S C cn X W) (i j k : Nat) (ia : Snd n S C g0 H0 X W a) (ib : Snd n S C g0 H0 X W b) (ic : Snd n S C g0 H0 X W c) : Sns n cn S C g0 H0 X W (.par3 i a j b k c) := Sns.ofS rfl fun st q => by
  split at q
  · rename_i x px y py z pz kt pt e1 e2 e3 k2 pt2 pos
    simp only [Bool.and_eq_true, decide_eq_true_eq, Bool.not_eq_true'] at q
    obtain ⟨⟨⟨⟨⟨⟨⟨⟨⟨⟨⟨⟨⟨⟨⟨⟨⟨⟨⟨h1, h2⟩, h3⟩, h4⟩, h5⟩, h6⟩, h7⟩, h8⟩, h9⟩, h10⟩, h11⟩, h12⟩, h13⟩, h14⟩, h15⟩, h16⟩, h17⟩, h18⟩, h19⟩, hot⟩ := q
    have hN : X.N.Nodup := by rw [A.N]; exact A.nd
    have ns1 := (ia.st e1 h15).1
    have ns2 := (ib.st e2 h16).1
    have ns3 := (ic.st e3 h17).1
    refine ps_weak (ps_par3 (A.calm hot) hN (by rw [A.N]; exact h1) (by rw [A.N]; exact h2) (by rw [A.N]; exact h3) h4 h5 h6 h10 h11 h12 (pa_cons (ia.e e1 h15) (pa_cons (ib.e e2 h16) (pa_cons (ic.e e3 h17) pa_nil (starEach_cons ns3)) (starEach_cons ns2)) (starEach_cons ns1)) (par3_sw A.kd h10 h11 h12 h7 h8 h9 h13 h14 ns1 ns2 ns3 h18 h19) rfl) fun D σ H ⟨g, ρ, rel, h⟩ => ?_
    refine ⟨g, ρ, rel, (den_mono S a).e (fun p hp g1 H1 v st1 r1 => ?_) (fun y hy => KW.x rel (Le.refl g) hy) h⟩
    have rel1 := rel.go st1
    refine ⟨g1, ρ, rel1, (den_mono S b).e (fun q hq g2 H2 w st2 r2 => ?_) (fun y hy => KW.x rel1 st1.le hy) hp⟩
    have rel2 := rel1.go st2
    refine ⟨g2, ρ, rel2, (den_mono S c).e (fun r hr g3 H3 u st3 r3 => ⟨v, w, u, rfl, ?_⟩) (fun y hy => KW.x rel2 (st1.le.trans st2.le) hy) hq⟩
    have rel3 := rel2.go st3
    exact hr g3 H3 _ ((st1.le.trans st2.le).trans st3.le) (((rel3.set i (RP.up (st2.le.trans st3.le) _ _ r1)).set j (RP.up st3.le _ _ r2)).set k r3)
  · cases q
theorem sns_par (A : AtS n S C cn X W) (m m' : Bool) (i j : Nat) (ia : Snd n S C g0 H0 X W a) (ib : Snd n S C g0 H0 X W b) : Sns n cn S C g0 H0 X W (.par m i a m' j b) := Sns.ofS rfl fun st q => by
  split at q
  · rename_i y py z pz kt pt e1 e2 k2 pt2 pos
    simp only [Bool.and_eq_true, decide_eq_true_eq, Bool.not_eq_true'] at q
    obtain ⟨⟨⟨⟨⟨⟨⟨⟨⟨⟨⟨h1, h2⟩, h3⟩, h4⟩, h5⟩, h6⟩, h7⟩, h8⟩, h9⟩, h10⟩, h11⟩, hot⟩ := q
    have hN : X.N.Nodup := by rw [A.N]; exact A.nd
    have ns1 := (ia.st e1 h8).1
    have ns2 := (ib.st e2 h9).1
    refine ps_weak (ps_par (A.calm hot) hN (by rw [A.N]; exact h1) (by rw [A.N]; exact h2) h3 h5 h6 (pa_cons (ia.s m e1 h8) (pa_cons (ib.s m' e2 h9) pa_nil (starEach_cons ns2)) (starEach_cons ns1)) (par_sw A.kd h5 h6 h4 h7 ns1 ns2 h10 h11) rfl) fun D σ H ⟨g, ρ, rel, h⟩ => ?_
    refine ⟨g, ρ, rel, (den_mono S a).s (fun s hs g1 H1 v st1 nk1 => ?_) (fun y hy => KW.x rel (Le.refl g) hy) h⟩
    have rel1 := rel.go st1
    refine ⟨g1, ρ, rel1, (den_mono S b).s (fun t ht g2 H2 w st2 nk2 => ⟨v, w, rfl, ?_⟩) (fun y hy => KW.x rel1 st1.le hy) hs⟩
    have rel2 := rel1.go st2
    obtain ⟨n1, n2, n3⟩ := NewOk.slot rel nk1
    obtain ⟨k1, k2, k3⟩ := NewOk.slot rel1 nk2
    have r3 := rel2.put i n1 (n2.go st2) fun o c e l x el ol ne => rel.fresh_own (n3 o c e) el ol
    refine ht g2 H2 _ (st1.le.trans st2.le) (r3.put j k1 k2 fun o c e l x el ol ne z => ?_)
    have hc := k3 o c e
    by_cases hl : i = l
    · subst hl
      have il : i < ρ.length := by
        have := (List.getElem?_eq_some_iff.mp el).1
        simpa using this
      rw [List.getElem?_set_self il] at el
      cases el
      rw [List.getElem?_set_self (by rw [← rel.len]; exact il)] at z
      cases z
      cases s with
      | un => cases ol
      | fz _ => cases ol
      | ex _ => cases ol
      | th => cases ol
      | ol xs =>
        obtain ⟨c2, vs, e2, q1, _⟩ := n2
        cases e2
        exact hc.no q1 fun ps z => by cases z
      | od xs =>
        obtain ⟨c2, vs, e2, q1, _⟩ := n2
        cases e2
        exact hc.no q1 fun ps z => by cases z
    · rw [List.getElem?_set_ne hl] at el z
      exact rel1.fresh_own hc el ol z
  · cases q
theorem ip_of (op : Bop) (h : bopI op = true) : PIp X (bopP op) (fun x y H Q => ∃ i j, x = .int i ∧ y = .int j ∧ binW op (.int i) (.int j) fun r => ∃ k, r = .int k ∧ Q (.int k) H) := by
  cases op <;> first | (cases h; done) | skip
  · intro pins s σ H x y v u Q I r1 r2 ⟨i, j, e1, e2, k, e3, q⟩
    cases e3
    exact ip_add pins s σ H x y v u Q I r1 r2 ⟨i, j, e1, e2, q⟩
  · intro pins s σ H x y v u Q I r1 r2 ⟨i, j, e1, e2, k, e3, q⟩
    cases e3
    exact ip_sub pins s σ H x y v u Q I r1 r2 ⟨i, j, e1, e2, q⟩
theorem sns_aug (A : AtS n S C cn X W) (op : Bop) (i : Nat) (ix : Snd n S C g0 H0 X W x) : Sns n cn S C g0 H0 X W (.aug op i x) := Sns.ofS rfl fun st q => by
  split at q
  · rename_i y py o e pos
    simp only [Bool.and_eq_true, decide_eq_true_eq, beq_iff_eq] at q
    obtain ⟨⟨⟨⟨h1, h2⟩, h3⟩, h4⟩, h5⟩ := q
    subst h4
    have hN : X.N.Nodup := by rw [A.N]; exact A.nd
    refine ps_weak (ps_aug hN (by rw [A.N]; exact h1) (loc_Loc h2) (ix.o e h5) (ip_of op h3) (.inl (A.fn y))) fun D σ H ⟨g, ρ, rel, h⟩ => ?_
    obtain ⟨p, e1, h0⟩ := varW_at h
    clear h
    obtain ⟨v, e2, rp⟩ := rel.var e1
    refine ⟨v, e2, ?_⟩
    refine tO_in (den_mono S x) rel h0 (fun qv g' H' u st1 rel' rq hh => ?_) fun y hy => KW.x rel (Le.refl g) hy
    clear h0 e1
    cases p <;> cases qv <;> first | exact hh.elim | skip
    rename_i k l
    refine ⟨k, l, rp, rq.int, ?_⟩
    cases op <;> first | (cases h3; done) | skip
    · exact ⟨_, rfl, hh g' H' _ st1.le (rel'.set i rfl)⟩
    · exact ⟨_, rfl, hh g' H' _ st1.le (rel'.set i rfl)⟩
  · cases q
theorem olW_at {s : Option Slot} {Q : List PV → Prop} (h : olW s Q) : ∃ xs, s = some (.ol xs) ∧ Q xs := by
  rcases s with _ | s
  · exact h.elim
  · cases s <;> simp only [olW] at h
    exact ⟨_, rfl, h⟩
theorem ol_of (rel : Rel C g0 H0 g H ρ σ) {i : Nat} {xs : List PV} (e : ρ[i]? = some (.ol xs)) : ∃ a vs, σ[i]? = some (some (V.ref a)) ∧ H a = some (.lst vs) ∧ RPs C g xs vs ∧ g.G a = none ∧ Nt H0 a ∧ Free g.T a := rel.at_ i _ e
/-- a method of a name's own list with one argument -/
theorem sns_meth (A : AtS n S C cn X W) {i : Nat} {y : Str} {py ap cp pos : Pos} {e : Expr} {m : Str} {id : String} {r : V → List V → Hp → VK → Prop} {R : List PV → PV → (List PV → Prop) → Prop} (h1 : n.N[i]? = some y) (h2 : vis X.env.scope y = true) (h3 : okName y = true) (h5 : (ap.endLine == cp.line) = true)
    (slot : PySem.Slot "list" m id) (hty : typeOf (.builtin id) = pure (.type "method_descriptor")) (hm : MtR X id r) (ix : Snd n S C g0 H0 X W x) (h6 : (chk n x).e X.env.scope e = true)
    (hr : ∀ {g : Gh} {H : Hp} {a : Addr} {vs : List V} {v : V} {xs : List PV} {p : PV} {F : List PV → Prop} {Q : VK}, W0 C g H → H a = some (.lst vs) → RPs C g xs vs → RP C g p v → R xs p F → (∀ ys ws, RPs C g ys ws → F ys → Q .non (upd H a (.lst ws))) → r (.ref a) [v] H Q) :
    PS X (.Expr (.Call (.Attribute (.Name y py) m ap) [e] [] cp) pos) (tSt C g0 H0 W fun ρ K => olW ρ[i]? fun xs => (den S x).e ρ (fun p => R xs p fun ys => K.nx (ρ.set i (.ol ys))) K.ex) := by
  have hN : X.N.Nodup := by rw [A.N]; exact A.nd
  obtain ⟨db, cd, nm⟩ := okName_db h3
  have ns := (ix.st e h6).1
  refine ps_weak (ps_expr (pe_bm PySem.F.plainAttrs_list slot hty hm (pe_var (i := i) (by rw [A.N]; exact h1) (vis_Vis h2) db cd) (pa_cons (ix.e e h6) pa_nil (starEach_cons ns)) rfl ?_ h5 (starEach_cons ns) rfl) (sw_no rfl)) fun D σ H ⟨g, ρ, rel, h⟩ => ?_
  · rw [starEach_cons ns]
    rfl
  · obtain ⟨xs, e1, h⟩ := olW_at h
    obtain ⟨a, vs, e2, q1, q2, q3, q4, q5⟩ := ol_of rel e1
    refine ⟨.ref a, e2, .inl ⟨rfl, vs, SqL.of q1⟩, ?_⟩
    refine tE_in (den_mono S x) rel h (fun p g' H' v st1 rel' rp h => ?_) fun y hy => KW.x rel (Le.refl g) hy
    obtain ⟨a', vs', e2', q1', q2', _⟩ := ol_of rel' e1
    rw [e2] at e2'
    cases e2'
    exact hr rel'.w q1' q2' rp h fun ys ws rps hF => hF g' _ σ st1.le (rel'.wrL e1 e2 q1' rps)
theorem sns_app (A : AtS n S C cn X W) (i : Nat) (ix : Snd n S C g0 H0 X W x) : Sns n cn S C g0 H0 X W (.app i x) := Sns.ofS rfl fun st q => by
  split at q
  · rename_i y py m ap e cp pos
    simp only [Bool.and_eq_true, decide_eq_true_eq] at q
    obtain ⟨⟨⟨⟨⟨h1, h2⟩, h3⟩, h4⟩, h5⟩, h6⟩ := q
    subst h4
    exact sns_meth A (R := fun xs p F => xs.length < sizeLine ∧ F (xs ++ [p])) h1 h2 h3 h5 PySem.F.slot_list_append PySem.F.type_list_append mt_append ix h6 fun w ha r1 r2 hR hQ => ⟨_, _, _, rfl, rfl, ha, by rw [← r1.len]; exact hR.1, hQ _ _ (RPs.app r1 (RPs.cons r2 RPs.nil)) hR.2⟩
  · cases q
theorem RPs.era {C : Cfg} {g : Gh} : ∀ {xs : List PV} {vs : List V} (k : Nat), RPs C g xs vs → RPs C g (xs.eraseIdx k) (vs.eraseIdx k)
  | [], _, k, h => by
    rw [h]
    cases k <;> rfl
  | x :: xs, _, 0, h => by
    obtain ⟨v, r, rfl, h1, h2⟩ := h
    exact h2
  | x :: xs, _, k + 1, h => by
    obtain ⟨v, r, rfl, h1, h2⟩ := h
    exact ⟨v, r.eraseIdx k, rfl, h1, RPs.era k h2⟩
theorem RPs.dropL {C : Cfg} {g : Gh} {xs : List PV} {vs : List V} (h : RPs C g xs vs) : RPs C g xs.dropLast vs.dropLast := by
  rw [List.dropLast_eq_take, List.dropLast_eq_take, h.len]
  exact RPs.take _ h
theorem sns_appP (A : AtS n S C cn X W) (i j : Nat) (ix : Snd n S C g0 H0 X W x) : Sns n cn S C g0 H0 X W (.appP i j x) := Sns.ofS rfl fun st q => by
  split at q
  · rename_i y py m ap z pz m2 ap2 e cp2 cp pos
    simp only [Bool.and_eq_true, decide_eq_true_eq] at q
    obtain ⟨⟨⟨⟨⟨⟨⟨⟨⟨⟨⟨h1, h2⟩, h3⟩, h4⟩, h5⟩, k1⟩, k2⟩, k3⟩, k4⟩, k5⟩, hij⟩, h6⟩ := q
    subst h4
    subst k4
    obtain ⟨db, cd, nm⟩ := okName_db h3
    obtain ⟨db', cd', nm'⟩ := okName_db k3
    have ns := (ix.st e h6).1
    have inner := pe_bm (apos := ap2) (cpos := cp2) PySem.F.plainAttrs_list PySem.F.slot_list_pop PySem.F.type_list_pop mt_popAt (pe_var (pos := pz) (i := j) (by rw [A.N]; exact k1) (vis_Vis k2) db' cd') (pa_cons (ix.e e h6) pa_nil (starEach_cons ns)) rfl (by rw [starEach_cons ns]; rfl) k5 (starEach_cons ns) rfl
    refine ps_weak (ps_expr (pe_bm PySem.F.plainAttrs_list PySem.F.slot_list_append PySem.F.type_list_append mt_append (pe_var (i := i) (by rw [A.N]; exact h1) (vis_Vis h2) db cd) (pa_cons inner pa_nil rfl) rfl rfl h5 rfl rfl) (sw_no rfl)) fun D σ H ⟨g, ρ, rel, h⟩ => ?_
    obtain ⟨xs, e1, h⟩ := olW_at h
    obtain ⟨ys, e2, h⟩ := olW_at h
    obtain ⟨a, vs, s1, q1, q2, q3, q4, q5⟩ := ol_of rel e1
    obtain ⟨b, ws, s2, r1, r2, r3, r4, r5⟩ := ol_of rel e2
    refine ⟨.ref a, s1, .inl ⟨rfl, vs, SqL.of q1⟩, ?_⟩
    refine ⟨.ref b, s2, .inl ⟨rfl, ws, SqL.of r1⟩, ?_⟩
    refine tE_in (den_mono S x) rel h (fun p g' H' v st1 rel' rp h => ?_) fun y hy => KW.x rel (Le.refl g) hy
    obtain ⟨a', vs', s1', q1', q2', _⟩ := ol_of rel' e1
    obtain ⟨b', ws', s2', r1', r2', _⟩ := ol_of rel' e2
    rw [s1] at s1'
    cases s1'
    rw [s2] at s2'
    cases s2'
    obtain ⟨k, mm, yv, rfl, hk, ek, ey, hl, h⟩ := popW_at h
    unfold smallI at hk
    have rp : v = .int k := rp
    subst rp
    obtain ⟨u, eu, ru⟩ := r2'.get ey
    obtain ⟨i1, i2, i3, i4⟩ := ixN_seq ek
    have ne : a ≠ b := fun z => hij (rel.inj i j _ _ a e1 e2 rfl rfl s1 (by rw [s2, z]))
    have rel1 := rel'.wrL e2 s2 r1' (r2'.era mm)
    have e1' : (ρ.set j (.ol (ys.eraseIdx mm)))[i]? = some (.ol xs) := by rw [List.getElem?_set_ne (Ne.symm hij)]; exact e1
    have qa : upd H' b (.lst (ws'.eraseIdx mm)) a = some (.lst vs') := by rw [upd_ne ne]; exact q1'
    have rel2 := rel1.wrL e1' s1 qa (RPs.app q2' (RPs.cons ru RPs.nil))
    have lw : ws'.length = ys.length := r2'.len.symm
    refine ⟨b, ws', k, mm, u, rfl, rfl, r1', ?_, ?_, by rw [lw]; exact i1, eu, ?_⟩
    · omega
    · omega
    · exact ⟨a, vs', u, rfl, rfl, qa, by rw [← q2'.len]; exact hl, h g' _ σ st1.le rel2⟩
  · cases q
theorem sns_popS (A : AtS n S C cn X W) (i j : Nat) : Sns n cn S C g0 H0 X W (.popS i j) := Sns.ofS rfl fun st q => by
  split at q
  · rename_i y py z pz m2 ap2 cp2 pos
    simp only [Bool.and_eq_true, decide_eq_true_eq] at q
    obtain ⟨⟨⟨⟨⟨⟨⟨h1, h2⟩, k1⟩, k2⟩, k3⟩, k4⟩, k5⟩, hij⟩ := q
    subst k4
    obtain ⟨db', cd', nm'⟩ := okName_db k3
    have hN : X.N.Nodup := by rw [A.N]; exact A.nd
    have hi : X.N[i]? = some y := by rw [A.N]; exact h1
    have inner := pe_bm0 (apos := ap2) (cpos := cp2) PySem.F.plainAttrs_list PySem.F.slot_list_pop PySem.F.type_list_pop mt_pop (pe_var (pos := pz) (i := j) (by rw [A.N]; exact k1) (vis_Vis k2) db' cd') rfl k5
    refine ps_weak (ps_set hN hi (loc_Loc h2) inner (sw_no rfl) (.inl (A.fn y))) fun D σ H ⟨g, ρ, rel, h⟩ => ?_
    obtain ⟨ys, e2, h⟩ := olW_at h
    obtain ⟨b, ws, s2, r1, r2, r3, r4, r5⟩ := ol_of rel e2
    obtain ⟨yv, ey, h⟩ := lastW_at h
    obtain ⟨u, eu, ru⟩ := r2.get ey
    refine ⟨.ref b, s2, .inl ⟨rfl, ws, SqL.of r1⟩, ?_⟩
    have rel1 := rel.wrL e2 s2 r1 r2.dropL
    refine ⟨b, ws, u, rfl, rfl, r1, by rw [← r2.len]; exact eu, ?_⟩
    exact h g _ _ (Le.refl g) (rel1.set i ru)
  · cases q
theorem sns_ext (A : AtS n S C cn X W) (i : Nat) (ix : Snd n S C g0 H0 X W x) : Sns n cn S C g0 H0 X W (.ext i x) := Sns.ofS rfl fun st q => by
  split at q
  · rename_i y py m ap e cp pos
    simp only [Bool.and_eq_true, decide_eq_true_eq] at q
    obtain ⟨⟨⟨⟨⟨h1, h2⟩, h3⟩, h4⟩, h5⟩, h6⟩ := q
    subst h4
    refine ps_weak (sns_meth A (R := fun xs p F => match p with
      | .lst ys => xs.length + ys.length ≤ sizeLine ∧ F (xs ++ ys)
      | _ => False) h1 h2 h3 h5 PySem.F.slot_list_extend PySem.F.type_list_extend mt_extend ix h6 fun {g H a vs v xs p F Q} w ha r1 r2 hR hQ => ?_) fun D σ H h => ?_
    · cases p <;> first | exact hR.elim | skip
      obtain ⟨b, ws, e3, q1, q2⟩ := r2
      exact ⟨_, b, _, _, rfl, by rw [e3], ha, w.sub _ _ q1, by rw [← r1.len, ← q2.len]; exact hR.1, hQ _ _ (RPs.app r1 q2) hR.2⟩
    · obtain ⟨g, ρ, rel, h⟩ := h
      exact ⟨g, ρ, rel, olW_mono (fun xs h => (den_mono S x).e (fun p h => by cases p <;> exact h) (fun _ z => z) h) h⟩
  · cases q
theorem sns_sto (A : AtS n S C cn X W) (i : Nat) (ik : Snd n S C g0 H0 X W k) (ix : Snd n S C g0 H0 X W x) : Sns n cn S C g0 H0 X W (.sto i k x) := Sns.ofS rfl fun st q => by
  split at q
  · rename_i y py ki p2 e pos
    simp only [Bool.and_eq_true, decide_eq_true_eq] at q
    obtain ⟨⟨⟨⟨⟨h1, h2⟩, h3⟩, h4⟩, h5⟩, h6⟩ := q
    obtain ⟨db, cd, nm⟩ := okName_db h3
    have nsl := (ik.st ki h4).2.2
    refine ps_weak (ps_asg (ix.e e h5) (pg_sub (pe_var (i := i) (by rw [A.N]; exact h1) (vis_Vis h2) db cd) (ik.e ki h4) set_list (fun v => ?_)) (by unfold swapsWithSole; exact sw_no h6) rfl rfl) fun D σ H ⟨g, ρ, rel, h⟩ => ?_
    · cases ki <;> first | rfl | (cases nsl; done)
    · refine tE_in (den_mono S x) rel h (fun p g' H' v st1 rel' rp h => ?_) fun y hy => KW.x rel (Le.refl g) hy
      obtain ⟨xs, e1, h⟩ := olW_at h
      obtain ⟨a, vs, e2, _⟩ := ol_of rel' e1
      refine ⟨.ref a, e2, ?_⟩
      refine tE_in (den_mono S k) rel' h (fun qv g2 H2 u st2 rel2 rq h => ?_) fun y hy => KW.x rel' st1.le hy
      cases qv <;> first | exact h.elim | skip
      rename_i z
      have h : match ixN xs.length z with
        | some j => (KW C g0 H0 W g D).nx (ρ.set i (.ol (xs.set j p)))
        | none => False := h
      split at h
      · rename_i j ej
        obtain ⟨a', vs', e2', q1', q2', _⟩ := ol_of rel2 e1
        rw [e2] at e2'
        cases e2'
        refine ⟨a, vs', z, j, rfl, rq, q1', by rw [← q2'.len]; exact ej, ?_⟩
        exact h g2 _ σ (st1.le.trans st2.le) (rel2.wrL e1 e2 q1' (RPs.put (RP.up st2.le _ _ rp) j q2'))
      · exact h.elim
  · cases q
theorem odW_at {s : Option Slot} {Q : List (Key × PV) → Prop} (h : odW s Q) : ∃ xs, s = some (.od xs) ∧ Q xs := by
  rcases s with _ | s
  · exact h.elim
  · cases s <;> simp only [odW] at h
    exact ⟨_, rfl, h⟩
theorem od_of (rel : Rel C g0 H0 g H ρ σ) {i : Nat} {xs : List (Key × PV)} (e : ρ[i]? = some (.od xs)) : ∃ a vs, σ[i]? = some (some (V.ref a)) ∧ H a = some (.dK vs) ∧ RPk C g xs vs ∧ g.G a = none ∧ Nt H0 a ∧ Free g.T a := rel.at_ i _ e
theorem sns_stoD (A : AtS n S C cn X W) (i : Nat) (ik : Snd n S C g0 H0 X W k) (ix : Snd n S C g0 H0 X W x) : Sns n cn S C g0 H0 X W (.stoD i k x) := Sns.ofS rfl fun st q => by
  split at q
  · rename_i y py ki p2 e pos
    simp only [Bool.and_eq_true, decide_eq_true_eq] at q
    obtain ⟨⟨⟨⟨⟨h1, h2⟩, h3⟩, h4⟩, h5⟩, h6⟩ := q
    obtain ⟨db, cd, nm⟩ := okName_db h3
    have hu := A.hu
    refine ps_weak (ps_dput (by omega) (pe_var (i := i) (by rw [A.N]; exact h1) (vis_Vis h2) db cd) (ik.e ki h4) (ix.e e h5) (sw_no h6)) fun D σ H ⟨g, ρ, rel, h⟩ => ?_
    refine tE_in (den_mono S x) rel h (fun p g' H' v st1 rel' rp h => ?_) fun y hy => KW.x rel (Le.refl g) hy
    obtain ⟨xs, e1, h⟩ := odW_at h
    obtain ⟨a, vs, e2, _⟩ := od_of rel' e1
    refine ⟨.ref a, e2, ?_⟩
    refine tE_in (den_mono S k) rel' h (fun qv g2 H2 u st2 rel2 rq h => ?_) fun y hy => KW.x rel' st1.le hy
    obtain ⟨j, e0, h'⟩ := keyW_at h
    subst e0
    obtain ⟨a', vs', e2', q1', q2', _⟩ := od_of rel2 e1
    rw [e2] at e2'
    cases e2'
    refine ⟨a, _, rfl, .inl ⟨vs', j, q1', keyP_v rq, by rw [← q2'.len]; exact h'.1, rfl⟩, ?_⟩
    exact h'.2 g2 _ σ (st1.le.trans st2.le) (rel2.wrD e1 e2 q1' (RPk.put (RP.up st2.le _ _ rp) q2'))
  · cases q
theorem sns_ite (A : AtS n S C cn X W) (ic : Snd n S C g0 H0 X W c) (i1 : Sns n cn S C g0 H0 X W s1) (i2 : Sns n cn S C g0 H0 X W s2) : Sns n cn S C g0 H0 X W (.ite c s1 s2) := Sns.ofS rfl fun st q => by
  split at q
  · rename_i e b1 b2 pos
    simp only [Bool.and_eq_true] at q
    obtain ⟨⟨h1, h2⟩, h3⟩ := q
    refine ps_weak (ps_if (ic.t e h1) (i1.blk b1 h2) (i2.blk b2 h3)) fun D σ H ⟨g, ρ, rel, h⟩ => ?_
    refine tT_in (den_mono S c) rel h (fun b g' H' st1 rel' h => ?_) fun y hy => KW.x rel (Le.refl g) hy
    cases b with
    | true => exact ⟨g', ρ, rel', wpS_mono S s1 _ _ _ (KW.up st1.le) h⟩
    | false => exact ⟨g', ρ, rel', wpS_mono S s2 _ _ _ (KW.up st1.le) h⟩
  · cases q
end
end Rk

set_option maxHeartbeats 4000000
namespace Rk
open PySem PySem.Spec PyProof.Rows L2
section
variable {n : Nms} {cn : Cns} {S : Sig} {C : Cfg} {g0 g g' g1 : Gh} {H0 H H' H1 : Hp} {X : Cx} {W : WX} {ρ : Env'} {σ : L2.St} {a b c x k src : Ex} {D D' : Ends} {s s1 s2 body : Sx}

theorem sns_whl (A : AtS n S C cn X W) (ic : Snd n S C g0 H0 X W c) (ib : Sns n cn S C g0 H0 X W body) : Sns n cn S C g0 H0 X W (.whl c body) := Sns.ofS rfl fun st q => by
  split at q
  · rename_i e b pos
    simp only [Bool.and_eq_true] at q
    refine ps_weak (ps_while A.hp (ic.t e q.1) (ib.blk b q.2)) fun D σ H ⟨g, ρ, rel, m, h⟩ => ?_
    let Wd : Nat → L2.St → Hp → Prop := fun m σ H => ∃ gi ρ, Le g gi ∧ Rel C g0 H0 gi H ρ σ ∧ whileW (den S c).t (wpS S body) (KW C g0 H0 W g D) m ρ
    refine ⟨Wd, ⟨m, g, ρ, Le.refl g, rel, h⟩, ?_⟩
    rintro m σ1 H1 ⟨gi, ρ1, l1, rel1, h1⟩
    cases m with
    | zero => exact h1.elim
    | succ m =>
      simp only [whileW] at h1
      refine tT_in (den_mono S c) rel1 h1 (fun b g' H' st1 rel' h => ?_) fun y hy => KW.x rel1 l1 hy
      cases b with
      | false =>
        simp only [Bool.false_eq_true, if_false] at h ⊢
        exact h g' H' σ1 (l1.trans st1.le) rel'
      | true =>
        simp only [if_true] at h ⊢
        refine ⟨Wd m, fun σ' H' w => ⟨m, Nat.lt_succ_self m, w⟩, g', ρ1, rel', wpS_mono S body _ _ _ ?_ h⟩
        have l := l1.trans st1.le
        exact ⟨fun ρ2 h g2 H2 σ2 l2 r2 => ⟨g2, ρ2, l.trans l2, r2, h⟩, fun p h g2 H2 v l2 => h g2 H2 v (l.trans l2), fun ρ2 h g2 H2 σ2 l2 => h g2 H2 σ2 (l.trans l2), fun ρ2 h g2 H2 σ2 l2 r2 => ⟨g2, ρ2, l.trans l2, r2, h⟩,
          fun y h g2 H2 cls d σ2 l2 => h g2 H2 cls d σ2 (l.trans l2)⟩
  · cases q
theorem sns_for (A : AtS n S C cn X W) (tg : Tg) (ic : Snd n S C g0 H0 X W src) (ib : Sns n cn S C g0 H0 X W body) : Sns n cn S C g0 H0 X W (.for_ tg src body) := Sns.ofS rfl fun st q => by
  split at q
  · rename_i t e b pos
    simp only [Bool.and_eq_true, Bool.not_eq_true'] at q
    obtain ⟨⟨⟨⟨h1, h2⟩, h3⟩, h4⟩, hot⟩ := q
    have hT : ∀ y, loc X.env.scope y = true → Loc X.env.scope y ∧ (X.fn y = true ∨ X.env.scope.names.lookup y = some .local) := fun y hy => ⟨loc_Loc hy, .inl (A.fn y)⟩
    have hg := (pg_of (C := C) (g0 := g0) (H0 := H0) A.N A.nd A.K (A.calm hot) hT tg).1 t h1
    have hi := ic.f e t h3 fun z => by
      rw [z] at h2
      simp only [Bool.not_true, Bool.false_or] at h2
      cases tg <;> first | (cases h2; done) | skip
      cases t <;> first | rfl | exact Bool.noConfusion (show false = true from h1)
    refine ps_weak (ps_for A.hp (A.calm hot) hi hg (ib.blk b h4) (fun v => noSetIter (ic.si e h3) v)) fun D σ H ⟨g, ρ, rel, h⟩ => ?_
    refine ⟨g, ρ, rel, (den_mono S src).f (fun items hc g1 H1 J st1 y => ?_) (fun y hy => KW.x rel (Le.refl g) hy) h⟩
    let Wd : Nat → Nat → L2.St → Hp → Prop := fun i m σ H => m = items.length - i ∧ i ≤ items.length ∧ ∃ gi ρ, Le g1 gi ∧ Rel C g0 H0 gi H ρ σ ∧ loopW (tgW tg).one (wpS S body) (KW C g0 H0 W g D) (items.drop i) ρ
    refine ⟨Wd, ⟨items.length, rfl, Nat.zero_le _, g1, ρ, Le.refl g1, rel.go st1, hc⟩, ?_⟩
    rintro i m σ1 Hi ⟨rfl, hi, gi, ρ1, l1, rel1, h1⟩
    obtain ⟨y1, y2⟩ := y gi Hi l1 rel1.w
    by_cases hlt : i < items.length
    · obtain ⟨x, hx⟩ : ∃ x, items[i]? = some x := ⟨_, List.getElem?_eq_getElem hlt⟩
      have hdrop : items.drop i = x :: items.drop (i + 1) := by
        obtain ⟨h1, h2⟩ := List.getElem?_eq_some_iff.mp hx
        rw [← h2]
        exact List.drop_eq_getElem_cons h1
      obtain ⟨go, yl⟩ := y1 i x hx
      refine .inr ⟨go, Wd (i + 1) (items.length - (i + 1)), fun σ' H' w => ⟨_, by omega, w⟩, fun v H2 yv => ?_⟩
      obtain ⟨g2, st2, rv⟩ := yl v H2 yv
      rw [hdrop] at h1
      simp only [loopW] at h1
      have rel2 := rel1.go st2
      refine ⟨g2, x, ρ1, rel2, rv, (tgW_mono tg).one (fun ρ' hb σ2 rel3 so => ?_) h1⟩
      have l := st1.le.trans (l1.trans st2.le)
      have l' := l1.trans st2.le
      refine ⟨g2, ρ', rel3, wpS_mono S body _ _ _ ?_ hb⟩
      exact ⟨fun ρ2 h g3 H3 σ3 l3 r3 => ⟨rfl, hlt, g3, ρ2, l'.trans l3, r3, h⟩, fun p h g3 H3 v l3 => h g3 H3 v (l.trans l3), fun ρ2 h g3 H3 σ3 l3 => h g3 H3 σ3 (l.trans l3), fun ρ2 h g3 H3 σ3 l3 r3 => ⟨rfl, hlt, g3, ρ2, l'.trans l3, r3, h⟩,
        fun y h g3 H3 cls d σ3 l3 => h g3 H3 cls d σ3 (l.trans l3)⟩
    · have e : i = items.length := by omega
      subst e
      rw [List.drop_length] at h1
      exact .inl ⟨y2, h1 gi Hi σ1 (st1.le.trans l1) rel1⟩
  · cases q
theorem sns_frz (i : Nat) : Sns n cn S C g0 H0 X W (.frz i) := Sns.ofS rfl fun st q => by cases q
theorem sns_seq (i1 : Sns n cn S C g0 H0 X W s1) (i2 : Sns n cn S C g0 H0 X W s2) : Sns n cn S C g0 H0 X W (.seq s1 s2) where
  one := fun st q => by cases q
  blk := fun sts q => by
    have q : (if isGhost s1 then (chkS n cn s2).blk X.env.scope sts else match (generalizing := false) sts with
        | [] => false
        | st :: r => (chkS n cn s1).one X.env.scope st && (chkS n cn s2).blk X.env.scope r) = true := q
    split at q
    · rename_i hz
      cases s1 <;> first | (cases hz; done) | skip
      rename_i i
      refine pss_weak (pss_lock (i2.blk sts q)) fun D σ H ⟨g, ρ, rel, h⟩ => ?_
      simp only [wpS] at h
      split at h
      · rename_i xs e
        obtain ⟨g', l, rel'⟩ := rel.frzL e
        exact .inl ⟨g', _, rel', wpS_mono S s2 _ _ _ (KW.up l) h⟩
      · rename_i xs e
        obtain ⟨a, vs, ha, k⟩ := rel.frzD e
        refine .inr ⟨a, .dK vs, ha, trivial, fun od => ?_⟩
        obtain ⟨g', l, rel'⟩ := k od
        exact ⟨g', _, rel', wpS_mono S s2 _ _ _ (KW.up l) h⟩
      · exact h.elim
    · cases sts with
      | nil => cases q
      | cons st r =>
        simp only [Bool.and_eq_true] at q
        refine pss_weak (pss_cons (i1.one st q.1) (i2.blk r q.2)) fun D σ H ⟨g, ρ, rel, h⟩ => ?_
        refine ⟨g, ρ, rel, wpS_mono S s1 _ _ _ ?_ h⟩
        exact ⟨fun ρ2 h g2 H2 σ2 l2 r2 => ⟨g2, ρ2, r2, wpS_mono S s2 _ _ _ (KW.up l2) h⟩, fun _ h => h, fun _ h => h, fun _ h => h, fun _ h => h⟩

/-! ### try .. except -/
theorem Step.re (s : Step C g0 H0 g H) (e : Option (Addr × Nat)) (f : Option Addr) : Step C { g0 with E := e, F := f } H0 { g with E := e, F := f } H :=
  ⟨⟨s.le.G, s.le.T⟩, ⟨s.w.sub, s.w.ntb, s.w.tab, s.w.tok, s.w.dj⟩, s.dom, s.frame, s.new, s.newT, rfl, rfl⟩
/-- what is held changes, where no name holds it -/
theorem Rel.re (r : Rel C g0 H0 g H ρ σ) (e : Option (Addr × Nat)) (h : ∀ (j : Nat) k, ρ[j]? ≠ some (.ex k)) : Rel C { g0 with E := e } H0 { g with E := e } H ρ σ := by
  have l : Le g { g with E := e } := ⟨fun _ _ h => h, fun _ h => h⟩
  have F := r.step.F
  refine ⟨⟨⟨r.step.le.G, r.step.le.T⟩, ⟨r.step.w.sub, r.step.w.ntb, r.step.w.tab, r.step.w.tok, r.step.w.dj⟩, r.step.dom, r.step.frame, r.step.new, r.step.newT, rfl, F⟩, r.len, fun i x ex => ?_, r.inj⟩
  have q := r.at_ i x ex
  cases x with
  | un => trivial
  | fz p =>
    obtain ⟨v, e1, rp⟩ := q
    exact ⟨v, e1, RP.up l _ _ rp⟩
  | ol xs =>
    obtain ⟨b, us, e2, k1, k2, k3, k4, k5⟩ := q
    exact ⟨b, us, e2, k1, RPs.up l _ _ k2, k3, k4, k5⟩
  | od xs =>
    obtain ⟨b, us, e2, k1, k2, k3, k4, k5⟩ := q
    exact ⟨b, us, e2, k1, RPk.up l _ _ k2, k3, k4, k5⟩
  | ex k => exact absurd ex (h i k)
  | th =>
    obtain ⟨f, e1, e2⟩ := q
    exact ⟨f, e1, e2⟩
theorem Rel.noex (r : Rel C g0 H0 g H ρ σ) (h : g0.E = none) (j k : Nat) : ρ[j]? ≠ some (.ex k) := fun e => by
  obtain ⟨a, _, e2⟩ := r.at_ j _ e
  rw [r.step.E, h] at e2
  cases e2
/-- a name is set to the error -/
theorem Rel.setEx (r : Rel C g0 H0 g H ρ σ) (i : Nat) {a : Addr} {c : Nat} (h : g.E = some (a, c)) : Rel C g0 H0 g H (ρ.set i (.ex c)) (σ.set i (some (.ref a))) := by
  have r0 := r.unset i (some (.ref a))
  refine ⟨r.step, by simpa using r.len, fun j x e => ?_, fun j k x y b e1 e2 o1 o2 s1 s2 => ?_⟩
  · by_cases hj : i = j
    · subst hj
      by_cases hi : i < ρ.length
      · rw [List.getElem?_set_self hi] at e
        cases e
        exact ⟨a, List.getElem?_set_self (by rw [← r.len]; exact hi), h⟩
      · rw [List.getElem?_eq_none (by simpa using hi)] at e
        cases e
    · rw [List.getElem?_set_ne hj] at e ⊢
      exact r.at_ j x e
  · have ne : ∀ {j x}, (ρ.set i (.ex c))[j]? = some x → x.own = true → i ≠ j := fun {j x} e o z => by
      subst z
      by_cases hi : i < ρ.length
      · rw [List.getElem?_set_self hi] at e
        cases e
        cases o
      · rw [List.getElem?_eq_none (by simpa using hi)] at e
        cases e
    have n1 := ne e1 o1
    have n2 := ne e2 o2
    rw [List.getElem?_set_ne n1] at e1 s1
    rw [List.getElem?_set_ne n2] at e2 s2
    exact r.inj j k x y b e1 e2 o1 o2 s1 s2
theorem nex_all {ρ : Env'} (h : ρ.all Slot.nex = true) (j k : Nat) : ρ[j]? ≠ some (.ex k) := fun e => by
  have z := List.all_eq_true.mp h _ (List.mem_of_getElem? e)
  cases z
theorem sns_tri (A : AtS n S C cn X W) (T : TieS n S C g0 H0 X W) (c i : Nat) (ix : ∀ {n'} X' W', At n' S C X' W' → Tie n' S C g0 H0 X' W' → Snd n' S C g0 H0 X' W' x)
    (is : ∀ {n'} {g0'} X' W', AtS n' S C cn X' W' → TieS n' S C g0' H0 X' W' → Sns n' cn S C g0' H0 X' W' s) : Sns n cn S C g0 H0 X W (.tri x c i s) := Sns.ofS rfl fun st q => by
  split at q
  · rename_i e ep y yp z b0 bs hp pos
    simp only [Bool.and_eq_true, decide_eq_true_eq, Bool.not_eq_true'] at q
    obtain ⟨⟨⟨⟨⟨⟨⟨⟨⟨hot, wd⟩, hc⟩, hgl⟩, hz⟩, hzl⟩, okz⟩, he⟩, hnc⟩, hb⟩ := q
    obtain ⟨hg, ok⟩ := glo_Gl (X := X) hgl
    obtain ⟨k, L, hr⟩ := A.lib
    obtain ⟨CS, hmC, hCS, hk⟩ := L.cls c y hc
    have ncold : n.cold = false := by
      unfold Nms.cold
      rw [wd]
      simp
    have hE := T.ne hot
    have hN : X.N.Nodup := by rw [A.N]; exact A.nd
    refine ps_weak (ps_try_as (i := i) (c := .ref CS) (A.stk hot) A.frm hN (by rw [A.N]; exact hz) hzl ⟨hg, (okName_db ok).1, .inl hmC⟩ A.tk
      (tb := fun W' D σ H => tE C g0 H0 W' (den S x).e σ H fun _ H' => D.nx σ H')
      (ts := fun a cls d D σ H => ∃ k Dk, C.ca k = some Dk ∧ cls = .ref Dk ∧ d = none ∧ tSt C { g0 with E := some (a, k) } H0 (fun _ _ _ _ => False) (wpS S s) D σ H)
      (fun W' pn xe tk' hp' => ?_) (fun a oe cls d pn hz hf => ?_)) fun D σ H h => ?_
    · have A' : At { n with fl := { n.fl with tc := true } } S C (X.tr pn xe) W' := ⟨A.N, A.nd, A.K, fun h => A.calm h, A.gd, tk', ⟨k, ⟨L.fns, L.cns, L.wds, L.cls, L.exc, L.blt⟩, hr⟩, A.hu, fun z => (by rw [show ({ n with fl := { n.fl with tc := true } } : Nms).cold = n.cold from rfl, ncold] at z; cases z), A.lm⟩
      have T' : Tie { n with fl := { n.fl with tc := true } } S C g0 H0 (X.tr pn xe) W' := ⟨fun z => (by rw [show ({ n with fl := { n.fl with tc := true } } : Nms).cold = n.cold from rfl, ncold] at z; cases z), T.ne, fun z => (by rw [show n.fl.hot = true from z] at hot; cases hot), fun _ f hf x p1 p2 hx => T.tr hot wd pn xe W' tk' f hf x p1 p2 hx⟩
      exact pss_one (ps_expr ((ix _ _ A' T').e e he) (sw_no hnc))
    · refine ⟨fun pins s' σ H D I h => ?_⟩
      obtain ⟨kk, Dk, hk1, rfl, rfl, h⟩ := h
      have A' : AtS { n with fl := { n.fl with hot := true, tc := false } } S C cn (X.suite a ((a, oe) :: pn)) (fun _ _ _ _ => False) :=
        { N := A.N, nd := A.nd, K := A.K, calm := fun h => (by cases h), gd := A.gd, tk := LamX.takes0, lib := ⟨k, ⟨L.fns, L.cns, L.wds, L.cls, L.exc, L.blt⟩, fun h => (by cases h)⟩, hu := A.hu, tcw := fun _ => rfl, lm := A.lm
          hp := PassesOwn.never, fn := A.fn, kd := A.kd, cr := A.cr, stk := fun h => (by cases h), frm := A.frm }
      have T' : TieS { n with fl := { n.fl with hot := true, tc := false } } S C { g0 with E := some (a, kk) } H0 (X.suite a ((a, oe) :: pn)) (fun _ _ _ _ => False) :=
        { cold := fun h => (by cases h), ne := fun h => (by cases h), th := fun h => (by cases h), tr := fun h => (by cases h)
          ex := fun _ a' c' e => by
            cases e
            exact ⟨Dk, hk1, call_isE (by rw [A.K]; exact (L.exc kk Dk hk1).1) hz hf⟩ }
      exact ((is _ _ A' T').blk _ hb).run pins s' σ H D I h
    · obtain ⟨g, ρ, rel, h⟩ := h
      refine ⟨g, ρ, rel, (den_mono S x).e (fun p z g' H' v st rp => ?_) (fun y z g' H' cls d st rx => ?_) h⟩
      · exact z g' H' σ st.le (rel.go st)
      · obtain ⟨z1, z2, z3⟩ := z
        obtain ⟨⟨Dk, hk1, rfl⟩, _, rfl⟩ := rx
        have rel' := rel.go st
        have lg : Le g g' := st.le
        refine ⟨true, by rw [A.K, (hk y.cls Dk hk1).2, z2], fun _ a na => ?_, fun z => (by cases z)⟩
        refine ⟨y.cls, Dk, hk1, rfl, rfl, { g' with E := some (a, y.cls) }, ρ.set i (.ex y.cls), (rel'.re (some (a, y.cls)) (rel'.noex hE)).setEx i rfl, wpS_mono S s _ _ _ ?_ z3⟩
        have back : ∀ {g2 : Gh} {H2 : Hp}, Step C { g0 with E := some (a, y.cls) } H0 g2 H2 → Step C g0 H0 { g2 with E := none } H2 := fun {g2 H2} s2 =>
          ⟨⟨s2.le.G, s2.le.T⟩, ⟨s2.w.sub, s2.w.ntb, s2.w.tab, s2.w.tok, s2.w.dj⟩, s2.dom, s2.frame, s2.new, s2.newT, hE.symm, s2.F⟩
        refine ⟨fun ρ' h g2 H2 σ2 l2 r2 => ?_, fun p h g2 H2 v l2 s2 rp => ?_, fun _ h => h.elim, fun _ h => h.elim, fun _ h => h.elim⟩
        · have r3 := (r2.unset i none).re none (nex_all h.1)
          have e0 : ({ ({ g0 with E := some (a, y.cls) } : Gh) with E := none } : Gh) = g0 := by
            cases g0
            cases hE
            rfl
          rw [e0] at r3
          exact h.2 { g2 with E := none } H2 (σ2.set i none) ⟨fun b o q => l2.G b o (lg.G b o q), fun q z => l2.T q (lg.T q z)⟩ r3
        · exact h { g2 with E := none } H2 v ⟨fun b o q => l2.G b o (lg.G b o q), fun q z => l2.T q (lg.T q z)⟩ (back s2) (RP.up (g := g2) (g' := { g2 with E := none }) ⟨fun _ _ h => h, fun _ h => h⟩ _ _ rp)
  · cases q

/-! ### every statement -/
theorem sns : ∀ (x : Sx) {n : Nms} {g0 : Gh} (X : Cx) (W : WX), AtS n S C cn X W → TieS n S C g0 H0 X W → Sns n cn S C g0 H0 X W x
  | .nil, _, _, X, W, A, T => sns_nil
  | .seq a b, _, _, X, W, A, T => sns_seq (sns a X W A T) (sns b X W A T)
  | .pass, _, _, X, W, A, T => sns_pass
  | .brk, _, _, X, W, A, T => sns_brk
  | .cnt, _, _, X, W, A, T => sns_cnt
  | .set m i x, _, _, X, W, A, T => sns_set A T.toTie m i (snd x X W A.toAt T.toTie) fun {tg src cnd elt own} _ => ⟨snd src X W A.toAt T.toTie, snd cnd, snd elt⟩
  | .setD i, _, _, X, W, A, T => sns_setD A i
  | .frz i, _, _, X, W, A, T => sns_frz i
  | .unp tg x, _, _, X, W, A, T => sns_unp A tg (snd x X W A.toAt T.toTie)
  | .par m i a m' j b, _, _, X, W, A, T => sns_par A m m' i j (snd a X W A.toAt T.toTie) (snd b X W A.toAt T.toTie)
  | .par3 i a j b k c, _, _, X, W, A, T => sns_par3 A i j k (snd a X W A.toAt T.toTie) (snd b X W A.toAt T.toTie) (snd c X W A.toAt T.toTie)
  | .aug op i x, _, _, X, W, A, T => sns_aug A op i (snd x X W A.toAt T.toTie)
  | .app i x, _, _, X, W, A, T => sns_app A i (snd x X W A.toAt T.toTie)
  | .appP i j x, _, _, X, W, A, T => sns_appP A i j (snd x X W A.toAt T.toTie)
  | .popS i j, _, _, X, W, A, T => sns_popS A i j
  | .ext i x, _, _, X, W, A, T => sns_ext A i (snd x X W A.toAt T.toTie)
  | .stoD i k x, _, _, X, W, A, T => sns_stoD A i (snd k X W A.toAt T.toTie) (snd x X W A.toAt T.toTie)
  | .sto i k x, _, _, X, W, A, T => sns_sto A i (snd k X W A.toAt T.toTie) (snd x X W A.toAt T.toTie)
  | .exp x, _, _, X, W, A, T => sns_exp A (snd x X W A.toAt T.toTie)
  | .ite c a b, _, _, X, W, A, T => sns_ite A (snd c X W A.toAt T.toTie) (sns a X W A T) (sns b X W A T)
  | .for_ tg src body, _, _, X, W, A, T => sns_for A tg (snd src X W A.toAt T.toTie) (sns body X W A T)
  | .whl c body, _, _, X, W, A, T => sns_whl A (snd c X W A.toAt T.toTie) (sns body X W A T)
  | .ret x, _, _, X, W, A, T => sns_ret A (snd x X W A.toAt T.toTie)
  | .retN, _, _, X, W, A, T => sns_retN
  | .rse c, _, _, X, W, A, T => sns_rse A c
  | .tri x c i s, _, _, X, W, A, T => sns_tri A T c i (fun X' W' A' T' => snd x X' W' A' T') (fun X' W' A' T' => sns s X' W' A' T')
  | .dead, _, _, X, W, A, T => Sns.ofS rfl fun st _ => ⟨fun _ _ _ _ _ _ ⟨_, _, _, h⟩ => h.elim⟩
end
end Rk

set_option maxHeartbeats 4000000
namespace Rk
open PySem PySem.Spec PyProof.Rows L2

section
variable {P : Program} {w : World} {K : PySem.W.Frag} {mg : Str → Option Value} {base : Heap} {k : Nat} {f : Addr} {x qual : Str} {st : Stmt} {fd : FuncData} {Nm ar : List Str} {sp : Sp}
/-- the code of the def at f -/
def CodeOf (K : PySem.W.Frag) (f : Addr) (cd : Value) : Prop := ∃ oc od fd osl, K.lookup f = some ⟨oc, od, .func fd, osl⟩ ∧ fd.code = cd
theorem CodeOf.eq {K : PySem.W.Frag} {f : Addr} {c d : Value} (h : CodeOf K f c) (h' : CodeOf K f d) : c = d := by
  obtain ⟨_, _, _, _, e1, rfl⟩ := h
  obtain ⟨_, _, _, _, e2, rfl⟩ := h'
  rw [e1] at e2
  cases e2
  rfl
/-- a def by its body, no guard around -/
theorem fnG_of (F : L2.Fun K x qual st f fd) (S : FnScope Nm ar (defScope st)) (hlen : ∀ vs H Q E, sp vs H Q E → vs.length = ar.length)
    (hb : ∀ (cdv : Value) (A : Around) (outer : List Env) (s : Shared) (H : Hp) (vs : List V) (Q : VK) (E : XK), Room k (A.deeper (envOfC qual (defScope st) s.heap.objs.size f cdv)) → A.guards = some [] → CodeOf K f cdv → sp vs H Q E →
      ∃ t, PSs (cxOf (L2.CX P w) P w K mg base Nm qual (defScope st) f cdv A outer s H E) (defBody st) t ∧ t { nx := fun _ H' => Q .non H', rt := Q } (start Nm vs) H) :
    FnG P w K mg base (k + 1) f fd ar sp := by
  obtain ⟨oc, od, kV, doc, pm, an, cdv, ct, osl, rfl, lk, hcd⟩ := F.ex
  refine ⟨hlen, fun A outer s H args us vs Q E room gd en bt rv hsp => ?_⟩
  have ln := hlen _ _ _ _ hsp
  have inK : K.In s.heap := PySem.W.Frag.In.keeps en.mod.kin fun b o z => (en.bs b o z).1
  have nl : s.heap.NoLimit := Heap.NoLimit.keeps en.mod.nolimit fun b o z => (en.bs b o z).1
  have place : ∀ y ∈ ar.zip us, (defScope st).names.lookup y.1 = some .local ∨ ((defScope st).names.lookup y.1 = some .cell ∧ ((cellsFrom (s.heap.objs.size + 1) (defScope st).names []).lookup y.1).isSome = true) := by
    rintro ⟨y, v⟩ hy
    cases S.par y (List.of_mem_zip hy).1 with
    | inl z => exact Or.inl z
    | inr z => exact Or.inr ⟨z, PySem.W.cellsFrom_some _ _ _ (Or.inl z)⟩
  refine codeAny_call_function room.depth (inK _ _ lk) rfl S.co S.gen rfl (PySem.W.codeRec_of inK hcd) (bt _ _ _ _ ?_)
  refine wpAny_newFunctionEnv_cells S.kind place ?_
  rintro env rfl s1 ent
  refine ⟨nl.keeps ent.toInCall.keep, codeAny_func ?_⟩
  obtain ⟨t, ht, hq⟩ := hb cdv A outer s H vs Q E (room.deeper _) gd ⟨_, _, _, _, lk, rfl⟩ hsp
  have J := inv_start (CX := L2.CX P w) (E := E) S room.hd en ln rv ent
  refine wpAny_mono (ht.run [] s1 (start Nm vs) H _ J hq) ?_ ?_
  · intro fl s' hs
    cases fl with
    | ret u =>
      obtain ⟨v, _, H', I, r, q⟩ := hs
      exact ⟨v, H', I.os, I.bare, I.base, I.hok, r, q⟩
    | next =>
      obtain ⟨_, H', I, q⟩ := hs
      exact ⟨.non, H', I.os, I.bare, I.base, I.hok, rfl, q⟩
    | brk =>
      obtain ⟨_, _, _, q⟩ := hs
      cases q
    | cont =>
      obtain ⟨_, _, _, q⟩ := hs
      cases q
  · exact fun _ _ z => z
end

/-! ### a def of the text, by the meaning of its resolved syntax -/
structure FD where
  N : List Str
  ar : Nat
  sx : Sx
def Sig.add (S : Sig) (j : Nat) (Φ : FSpec) : Sig := ⟨fun i => if i = j then Φ else S.Φ i, S.cn, S.wd, S.sb, S.tk⟩
def entry (nl : Nat) (as : List PV) : Env' := as.map Slot.fz ++ List.replicate (nl - as.length) .un
def endK (Q : PV → Prop) (E : Exn → Prop) : Kont := ⟨fun _ => Q .non, Q, fun _ => False, fun _ => False, E⟩
def phiOf (S : Sig) (d : FD) : FSpec where
  ar := d.ar
  run := fun as Q E => as.length = d.ar ∧ wpS S d.sx (entry d.N.length as) (endK Q E)
  len := fun as Q E h => h.1
  mono := fun as Q Q' E E' hq he h => ⟨h.1, wpS_mono S d.sx _ (endK Q E) (endK Q' E') ⟨fun _ z => hq _ z, hq, fun _ z => z, fun _ z => z, he⟩ h.2⟩

section
variable {n : Nms} {cn : Cns} {S : Sig} {C : Cfg} {P : Program} {w : World} {mg : Str → Option Value} {base : Heap} {k : Nat} {f : Addr} {x qual : Str} {st : Stmt} {fd : FuncData} {ar : List Str}
theorem entry_get {nl : Nat} {as : List PV} {i : Nat} {s : Slot} (h : (entry nl as)[i]? = some s) : (∃ p, as[i]? = some p ∧ s = .fz p) ∨ s = .un := by
  unfold entry at h
  by_cases hi : i < as.length
  · rw [List.getElem?_append_left (by simpa using hi), List.getElem?_map] at h
    cases e : as[i]? with
    | none =>
      rw [e] at h
      cases h
    | some p =>
      rw [e] at h
      cases h
      exact .inl ⟨p, rfl, rfl⟩
  · rw [List.getElem?_append_right (by simpa using hi), List.getElem?_replicate] at h
    split at h
    · cases h
      exact .inr rfl
    · cases h
theorem rel_start {g : Gh} {H : Hp} {ps : List PV} {vs : List V} {Nm : List Str} (hl : ps.length ≤ Nm.length) (w0 : W0 C g H) (r : RPs C g ps vs) : Rel C g H g H (entry Nm.length ps) (L2.start Nm vs) := by
  have ln := r.len
  refine ⟨Step.refl w0, ?_, fun i s e => ?_, fun i j s t a e1 e2 o1 => ?_⟩
  · unfold entry L2.start
    simp only [List.length_append, List.length_map, List.length_replicate]
    omega
  · rcases entry_get e with ⟨p, e2, rfl⟩ | rfl
    · obtain ⟨v, e3, rp⟩ := r.get e2
      refine ⟨v, ?_, rp⟩
      unfold L2.start
      rw [List.getElem?_append_left (by
        rw [List.length_map]
        exact (List.getElem?_eq_some_iff.mp e3).1), List.getElem?_map, e3]
      rfl
    · trivial
  · rcases entry_get e1 with ⟨p, e2, rfl⟩ | rfl <;> cases o1
/-- the name of the lambdas of a def -/
abbrev lamN (q : Str) : Str := q ++ ".<locals>." ++ "<lambda>"
/-- the flags of a def that makes lambdas (true), of any other -/
abbrev flm (b : Bool) : Flags := ⟨false, false, false, b, if b then 2 else 0⟩
theorem def_ok {Nm : List Str} {sx : Sx} {lm : Bool} (F : L2.Fun C.K x qual st f fd) (Sc : FnScope Nm ar (defScope st)) (L : Lib ⟨Nm, n.fn, n.cn, n.wn, n.cl, f0⟩ S C P w mg base k) (R : Crs cn C mg)
    (hk : (chkS ⟨Nm, n.fn, n.cn, n.wn, n.cl, flm lm⟩ cn sx).blk (defScope st) (defBody st) = true)
    (hlm : lm = true → ∃ c Pt, LamX.TabB base mg c Pt ∧ CodeOf C.K f (.ref c) ∧ (Pt, lamN qual) ∈ C.Tb ∧ ∀ p, p ∈ C.Tb → p.1 = Pt → p.2 = lamN qual) :
    FnG P w C.K mg base (k + (flm lm).up + 1) f fd ar (spOf C (phiOf S ⟨Nm, ar.length, sx⟩)) := by
  have hpl : ar.length ≤ Nm.length := by
    have z := congrArg List.length Sc.pre
    rw [List.length_take] at z
    omega
  refine fnG_of F Sc (fun vs H Q E h => ?_) fun cdv A outer s H vs Q E room gd hcd h => ?_
  · obtain ⟨g, ps, _, _, r, h⟩ := h
    rw [← r.len]
    have h : ps.length = ar.length ∧ _ := h
    exact h.1
  · obtain ⟨g, ps, cold, w0, r, hl, h⟩ := h
    have hl : ps.length = ar.length := hl
    let X := cxOf (L2.CX P w) P w C.K mg base Nm qual (defScope st) f cdv A outer s H E
    let W : WX := fun cls d _ H' => E cls d H'
    have tk : Takes X W := takes_of rfl rfl rfl rfl
    have kd : X.env.blockKind = .function := by
      show (if (defScope st).kind.isAnnotationScope then ScopeKind.function else (defScope st).kind) = .function
      rw [Sc.kind]
      rfl
    have hlib : ∃ k, Lib ⟨Nm, n.fn, n.cn, n.wn, n.cl, flm lm⟩ S C X.prog X.w X.mg X.base k ∧ ((flm lm).hot = false → Room (k + (flm lm).up) X.A) := ⟨k, ⟨L.fns, L.cns, L.wds, L.cls, L.exc, L.blt⟩, fun _ => room⟩
    have hun : X.A.units + 64 < cLine := Room.units (k := k + (flm lm).up) room
    have At0 : At ⟨Nm, n.fn, n.cn, n.wn, n.cl, flm lm⟩ S C X W := { N := rfl, nd := Sc.nd, K := rfl, calm := fun _ => rfl, gd := gd, tk := tk, lib := hlib, hu := hun, tcw := fun _ => rfl, lm := fun z => Exists.elim (hlm z) fun c q => Exists.elim q fun Pt q => ⟨c, Pt, q.1, hcd.eq q.2.1, q.2.2⟩ }
    have At1 : AtS ⟨Nm, n.fn, n.cn, n.wn, n.cl, flm lm⟩ S C cn X W := ⟨At0, passes_of rfl, fun _ => rfl, kd, R, fun _ => rfl, rfl⟩
    have T : TieS ⟨Nm, n.fn, n.cn, n.wn, n.cl, flm lm⟩ S C g H X W := ⟨⟨fun _ => cold, fun _ => cold.1, fun z => (by cases z), fun z => (by cases z)⟩, fun _ z => (by cases z)⟩
    refine ⟨_, (sns (g0 := g) (H0 := H) sx X W At1 T).blk _ hk, g, _, rel_start (by omega) w0 r, wpS_mono S sx _ _ _ ?_ h⟩
    exact ⟨fun ρ z g' H' σ' l rel' => z g' H' .non rel'.step rfl, fun p z g' H' v l st rp => z g' H' v st rp, fun _ z => z.elim, fun _ z => z.elim, fun y z g' H' cls d σ' l st rx => z g' H' cls d st rx⟩

/-! ### a def that is handed something to call -/
def entryW (nl : Nat) : Env' := .th :: List.replicate (nl - 1) .un
def Sig.tkd (S : Sig) (t : (PV → Prop) → (Exn → Prop) → Prop) : Sig := ⟨S.Φ, S.cn, S.wd, S.sb, t⟩
def phiW (S : Sig) (nl : Nat) (sx : Sx) : WSpec where
  run := fun t Q => ∃ t0 : (PV → Prop) → (Exn → Prop) → Prop, (∀ Q E, t0 Q E → t Q E) ∧ wpS (S.tkd t0) sx (entryW nl) (endK Q fun _ => False)
  mono := fun t Q Q' hq ⟨t0, h1, h2⟩ => ⟨t0, h1, wpS_mono _ sx _ (endK Q fun _ => False) (endK Q' fun _ => False) ⟨fun _ z => hq _ z, hq, fun _ z => z, fun _ z => z, fun _ z => z⟩ h2⟩
theorem rel_startW {g : Gh} {H : Hp} {f0 : Addr} {Nm : List Str} (hl : 1 ≤ Nm.length) (w0 : W0 C g H) (hf : g.F = some f0) : Rel C g H g H (entryW Nm.length) (L2.start Nm [.ref f0]) := by
  refine ⟨Step.refl w0, ?_, fun i s e => ?_, fun i j s t a e1 e2 o1 => ?_⟩
  · unfold entryW L2.start
    simp only [List.length_cons, List.length_append, List.length_map, List.length_replicate, List.length_nil]
    omega
  · unfold entryW at e
    cases i with
    | zero =>
      cases e
      exact ⟨f0, rfl, hf⟩
    | succ i =>
      rw [List.getElem?_cons_succ, List.getElem?_replicate] at e
      split at e
      · cases e
        trivial
      · cases e
  · unfold entryW at e1
    cases i with
    | zero =>
      cases e1
      cases o1
    | succ i =>
      rw [List.getElem?_cons_succ, List.getElem?_replicate] at e1
      split at e1
      · cases e1
        cases o1
      · cases e1
abbrev fwd : Flags := ⟨false, true, false, false, 0⟩
theorem word_ok {Nm : List Str} {sx : Sx} {a : Str} (F : L2.Fun C.K x qual st f fd) (Sc : FnScope Nm [a] (defScope st)) (hb : Binds C.K fd [a] []) (hkp : PySem.W.keepIn C.K (.ref f) = true) (L : Lib ⟨Nm, n.fn, n.cn, n.wn, n.cl, f0⟩ S C P w mg base k) (R : Crs cn C mg)
    (hk : (chkS ⟨Nm, n.fn, n.cn, n.wn, n.cl, fwd⟩ cn sx).blk (defScope st) (defBody st) = true) : ∃ cdv, Wd C P w mg base (k + 1) f Nm qual (defScope st) cdv a (phiW S Nm.length sx) := by
  obtain ⟨oc, od, kV, doc, pm, an, cdv, ct, osl, rfl, lk, hcd⟩ := F.ex
  have pre := Sc.pre
  have hpl : 1 ≤ Nm.length := by
    have z := congrArg List.length pre
    simp only [List.length_take, List.length_cons, List.length_nil] at z
    omega
  have hN0 : Nm[0]? = some a := by
    cases Nm with
    | nil => simp at hpl
    | cons y r =>
      simp at pre
      rw [pre]
      rfl
  refine ⟨cdv, hkp, fun A outer s H f0 t g Q room gd en cold w0 hth hrun => ?_⟩
  obtain ⟨t0, ht, h⟩ := hrun
  have kin : C.K.In s.heap := PySem.W.Frag.In.keeps en.mod.kin fun b o z => (en.bs b o z).1
  refine LamX.run_ofS (CX := C8.CX0) (N := Nm) (ps := [a]) (us := [.ref f0]) (vs := [.ref f0]) lk hcd Sc room en (hb s [.ref f0] kin rfl) (.cons rfl .nil) rfl fun room' => ?_
  let X := (wdCx P w C.K mg base Nm qual (defScope st) f cdv A outer s H).nox
  let W : WX := fun _ _ _ _ => False
  have kd : X.env.blockKind = .function := by
    show (if (defScope st).kind.isAnnotationScope then ScopeKind.function else (defScope st).kind) = .function
    rw [Sc.kind]
    rfl
  let g0 : Gh := { g with F := some f0 }
  have w1 : W0 C g0 H := ⟨w0.sub, w0.ntb, w0.tab, w0.tok, w0.dj⟩
  have At0 : At ⟨Nm, n.fn, n.cn, n.wn, n.cl, fwd⟩ (S.tkd t0) C X W := ⟨rfl, Sc.nd, rfl, fun _ => rfl, gd, LamX.takes0, ⟨k, ⟨L.fns, L.cns, L.wds, L.cls, L.exc, L.blt⟩, fun _ => room'⟩, room'.units, fun z => (by cases z), fun z => (by cases z)⟩
  have At1 : AtS ⟨Nm, n.fn, n.cn, n.wn, n.cl, fwd⟩ (S.tkd t0) C cn X W := ⟨At0, PassesOwn.never, fun _ => rfl, kd, R, fun _ => rfl, rfl⟩
  have T : TieS ⟨Nm, n.fn, n.cn, n.wn, n.cl, fwd⟩ (S.tkd t0) C g0 H X W := by
    refine ⟨⟨fun z => (by cases z), fun _ => cold.1, fun z => (by cases z), fun z => (by cases z)⟩, fun _ _ pn xe W' tk' f1 hf1 y p1 p2 hy => ?_⟩
    cases hf1
    have hy : Nm[0]? = some y := hy
    rw [hN0] at hy
    cases hy
    refine pe_weak (hth pn xe W' p1 p2 tk' room') fun σ HZ QZ hz => ?_
    obtain ⟨e1, g1, Q0, E0, s1, hq, hx, h0⟩ := hz
    have up : ∀ {g' H'}, Step C { g1 with F := none } HZ g' H' → Step C g1 HZ { g' with F := g1.F } H' := fun {g' H'} s2 =>
      ⟨⟨s2.le.G, s2.le.T⟩, ⟨s2.w.sub, s2.w.ntb, s2.w.tab, s2.w.tok, s2.w.dj⟩, s2.dom, s2.frame, s2.new, s2.newT, s2.E, rfl⟩
    refine ⟨e1, { g1 with F := none }, Q0, E0, ⟨⟨s1.le.G, s1.le.T⟩, ⟨s1.w.sub, s1.w.ntb, s1.w.tab, s1.w.tok, s1.w.dj⟩, s1.dom, s1.frame, s1.new, s1.newT, s1.E, cold.2.symm⟩, fun p z g' H' v s2 rp => ?_, fun x z g' H' cls d s2 rx => hx x z _ H' cls d (up s2) rx, ht _ _ h0⟩
    exact hq p z _ H' v (up s2) (RP.up (g := g') (g' := { g' with F := g1.F }) ⟨fun _ _ h => h, fun _ h => h⟩ _ _ rp)
  have back : ∀ {g2 H2}, Step C g0 H g2 H2 → Step C g H { g2 with F := none } H2 := fun {g2 H2} s2 =>
    ⟨⟨s2.le.G, s2.le.T⟩, ⟨s2.w.sub, s2.w.ntb, s2.w.tab, s2.w.tok, s2.w.dj⟩, s2.dom, s2.frame, s2.new, s2.newT, s2.E, cold.2.symm⟩
  refine ⟨_, ((sns (g0 := g0) (H0 := H) sx X W At1 T).blk _ hk).nox, g0, _, rel_startW hpl w1 rfl, wpS_mono _ sx _ _ _ ?_ h⟩
  exact ⟨fun ρ z g' H' σ' l rel' => z _ H' .non (back rel'.step) rfl, fun p z g' H' v l st rp => z _ H' v (back st) (RP.up (g := g') (g' := { g' with F := none }) ⟨fun _ _ h => h, fun _ h => h⟩ _ _ rp), fun _ z => z.elim, fun _ z => z.elim, fun y z => z.elim⟩
end
end Rk

set_option maxHeartbeats 4000000
namespace Rk
open PySem PySem.Spec PyProof.Rows L2

/-! ### a draw: its text over the heap itself -/
def vW (H : Hp) (σ : L2.St) : Ex → (V → Prop) → Prop
  | .var i, Q => ∃ v, σ[i]? = some (some v) ∧ Q v
  | .int k, Q => Q (.int k)
  | .bin op a b, Q => vW H σ a fun u => vW H σ b fun v => ∃ i j, u = .int i ∧ v = .int j ∧ binW op (.int i) (.int j) fun r => ∃ k, r = .int k ∧ Q (.int k)
  | .idx a b, Q => vW H σ a fun u => vW H σ b fun v => ∃ p i xs y, u = .ref p ∧ v = .int i ∧ H p = some (.lst xs) ∧ atI xs i = some y ∧ Q y
  | .blt .len (.cons a .nil), Q => vW H σ a fun u => ∃ p xs, u = .ref p ∧ H p = some (.lst xs) ∧ Q (.int xs.length)
  | .blt .int (.cons a .nil), Q => vW H σ a fun u => ∃ i, u = .int i ∧ Q (.int i)
  | _, _ => False
def cmpI : Cop → Int → Int → Option Bool
  | .eq, i, j => some (decide (i = j))
  | .lt, i, j => some (decide (i < j))
  | .gt, i, j => some (decide (j < i))
  | .ge, i, j => some (decide (j ≤ i))
  | _, _, _ => none
def vT (H : Hp) (σ : L2.St) : Ex → (Bool → Prop) → Prop
  | .cmp op a b, Q => vW H σ a fun u => vW H σ b fun v => ∃ i j k, u = .int i ∧ v = .int j ∧ cmpI op i j = some k ∧ Q k
  | .and a b, Q => vT H σ a fun k => if k then vT H σ b Q else Q false
  | .one a, Q => vT H σ a Q
  | _, _ => False
inductive Vx where
  | nil | seq (a b : Vx)
  | set (i : Nat) (x : Ex) | sto (o k x : Ex) | pop0 (o : Ex)
  | ite (c : Ex) (a b : Vx) | ret (x : Ex)
def chkV (n : Nms) : Vx → Chs
  | .nil => ⟨fun _ _ => false, fun _ sts => match sts with
      | [] => true
      | _ => false⟩
  | .seq a b => ⟨fun _ _ => false, fun sc sts => match sts with
      | [] => false
      | st :: r => (chkV n a).one sc st && (chkV n b).blk sc r⟩
  | .set i x => .ofS fun sc st => match st with
    | .Assign [.Name y _] e _ => decide (n.N[i]? = some y) && loc sc y && (chk n x).e sc e && notComp e
    | _ => false
  | .sto o k x => .ofS fun sc st => match st with
    | .Assign [.Subscript oe ki _] e _ => (chk n o).e sc oe && (chk n k).e sc ki && (chk n x).e sc e && notComp e && notSlice ki
    | _ => false
  | .pop0 o => .ofS fun sc st => match st with
    | .Expr (.Call (.Attribute (.Subscript oe ki p) m ap) [.Constant (.int z) _ _] [] cp) _ => (chk n o).e sc (.Subscript oe ki p) && decide (m = "pop") && decide (z = 0) && (ap.endLine == cp.line)
    | _ => false
  | .ite c a b => .ofS fun sc st => match st with
    | .If e s1 s2 _ => (chk n c).e sc e && (chkV n a).blk sc s1 && (chkV n b).blk sc s2
    | _ => false
  | .ret x => .ofS fun sc st => match st with
    | .Return (some e) _ => (chk n x).e sc e
    | _ => false
def wpV : Vx → Ends → L2.St → Hp → Prop
  | .nil, D, σ, H => D.nx σ H
  | .seq a b, D, σ, H => wpV a { D with nx := fun σ' H' => wpV b D σ' H' } σ H
  | .set i x, D, σ, H => vW H σ x fun v => D.nx (σ.set i (some v)) H
  | .sto o k x, D, σ, H => vW H σ x fun v => vW H σ o fun u => vW H σ k fun w => ∃ p z xs j, u = .ref p ∧ w = .int z ∧ H p = some (.lst xs) ∧ ixN xs.length z = some j ∧ D.nx σ (upd H p (.lst (xs.set j v)))
  | .pop0 o, D, σ, H => vW H σ o fun u => ∃ p x xs, u = .ref p ∧ H p = some (.lst (x :: xs)) ∧ D.nx σ (upd H p (.lst xs))
  | .ite c a b, D, σ, H => vT H σ c fun k => if k then wpV a D σ H else wpV b D σ H
  | .ret x, D, σ, H => vW H σ x fun v => D.rt v H

section
variable {n : Nms} {S : Sig} {C : Cfg} {X : Cx} {W : WX}
theorem vW_mono {H : Hp} {σ : L2.St} : ∀ {x : Ex} {Q Q' : V → Prop}, (∀ v, Q v → Q' v) → vW H σ x Q → vW H σ x Q'
  | .var i, Q, Q', hq, ⟨v, e, q⟩ => ⟨v, e, hq _ q⟩
  | .int k, Q, Q', hq, h => hq _ h
  | .bin op a b, Q, Q', hq, h => by
    simp only [vW] at h ⊢
    exact vW_mono (x := a) (fun u h => vW_mono (x := b) (fun v ⟨i, j, e1, e2, h⟩ => ⟨i, j, e1, e2, binW_mono (fun r ⟨k, e, q⟩ => ⟨k, e, hq _ q⟩) h⟩) h) h
  | .idx a b, Q, Q', hq, h => by
    simp only [vW] at h ⊢
    exact vW_mono (x := a) (fun u h => vW_mono (x := b) (fun v ⟨p, i, xs, y, e1, e2, e3, e4, q⟩ => ⟨p, i, xs, y, e1, e2, e3, e4, hq _ q⟩) h) h
  | .blt f as, Q, Q', hq, h => by
    cases f <;> first | exact h.elim | skip
    all_goals
      cases as <;> first | exact h.elim | skip
      rename_i a b
      cases b <;> first | exact h.elim | skip
    · have h : vW H σ a fun u => ∃ p xs, u = .ref p ∧ H p = some (.lst xs) ∧ Q (.int xs.length) := h
      exact vW_mono (x := a) (fun u ⟨p, xs, e1, e2, q⟩ => ⟨p, xs, e1, e2, hq _ q⟩) h
    · have h : vW H σ a fun u => ∃ i, u = .int i ∧ Q (.int i) := h
      exact vW_mono (x := a) (fun u ⟨i, e1, q⟩ => ⟨i, e1, hq _ q⟩) h
  | .non, _, _, _, h => h.elim
  | .tt _, _, _, _, h => h.elim
  | .str _, _, _, _, h => h.elim
  | .con _, _, _, _, h => h.elim
  | .fnv _, _, _, _, h => h.elim
  | .neg _, _, _, _, h => h.elim
  | .not _, _, _, _, h => h.elim
  | .cmp _ _ _, _, _, _, h => h.elim
  | .cmp2 _ _ _ _ _, _, _, _, h => h.elim
  | .and _ _, _, _, _, h => h.elim
  | .or _ _, _, _, _, h => h.elim
  | .one _, _, _, _, h => h.elim
  | .ite _ _ _, _, _, _, h => h.elim
  | .call _ _, _, _, _, h => h.elim
  | .callv _ _ _, _, _, _, h => h.elim
  | .isi _ _, _, _, _, h => h.elim
  | .slc _ _ _, _, _, _, h => h.elim
  | .rev _, _, _, _, h => h.elim
  | .tup _, _, _, _, h => h.elim
  | .lst _, _, _, _, h => h.elim
  | .comp _ _ _ _ _, _, _, _, h => h.elim
  | .rng1 _, _, _, _, h => h.elim
  | .rng2 _ _, _, _, _, h => h.elim
  | .zip _ _, _, _, _, h => h.elim
  | .enum _, _, _, _, h => h.elim
  | .lix _ _, _, _, _, h => h.elim
  | .nil, _, _, _, h => h.elim
  | .cons _ _, _, _, _, h => h.elim
  | .own _, _, _, _, h => h.elim
def g00 : Gh := ⟨fun _ => none, [], none, none⟩
theorem tie_f0 {g0 : Gh} {H0 : Hp} (hf : n.fl = f0) (c : g0.cold) : Tie n S C g0 H0 X W := ⟨fun _ => c, fun _ => c.1, fun z => (by rw [hf] at z; cases z), fun z => (by rw [hf] at z; cases z)⟩
theorem sn0 (hf : n.fl = f0) (A : At n S C X W) (x : Ex) : Snd n S C g00 (fun _ => none) X W x := snd x X W A (tie_f0 hf ⟨rfl, rfl⟩)
theorem vE_blt (hf : n.fl = f0) (A : At n S C X W) (f : Blt) (as : Ex) (ih : ∀ a b, as = .cons a b → ∀ e, (chk n a).e X.env.scope e = true → PE X e (fun σ H Q => vW H σ a fun v => Q v H)) (e : Expr) (q : (chk n (.blt f as)).e X.env.scope e = true) :
    PE X e (fun σ H Q => vW H σ (.blt f as) fun v => Q v H) := by
  have no := pe_false (sn0 hf A _ |>.e _ q)
  have q0 := (chk_ofE q).2.2.2
  split at q0
  · rename_i y py b es pos
    simp only [Bool.and_eq_true, decide_eq_true_eq] at q0
    obtain ⟨⟨⟨q1, q2⟩, q3⟩, q9⟩ := q0
    obtain ⟨hg, ok⟩ := glo_Gl q2
    cases as <;> first | (refine pe_weak no fun σ H Q h => ?_; cases f <;> exact False.elim h; done) | skip
    rename_i a c
    cases c <;> first | (refine pe_weak no fun σ H Q h => ?_; cases f <;> exact False.elim h; done) | skip
    have ih := ih a .nil rfl
    obtain ⟨q5, q4⟩ : (chk n a).e X.env.scope b = true ∧ (chk n .nil).a X.env.scope es = true := by
      have z : ((chk n a).e X.env.scope b && (chk n .nil).a X.env.scope es) = true := q3
      simpa only [Bool.and_eq_true] using z
    have hs := ((sn0 hf A a).st _ q5).1
    cases es with
    | cons _ _ => exact Bool.noConfusion (show false = true from q4)
    | nil =>
      subst q1
      cases f <;> first | (refine pe_weak no fun σ H Q h => ?_; exact False.elim h; done) | skip
      · refine pe_weak (pe_callB call_len_seq hg (A.mgb (by decide)) (by decide +kernel) (pa_cons (ih b q5) pa_nil (starEach_cons hs)) (hn := (okName_db ok).2.2) (hdb := (okName_db ok).1) (he := starEach_cons hs)) fun σ H Q h => ?_
        have h : vW H σ a fun u => ∃ p xs, u = .ref p ∧ H p = some (.lst xs) ∧ Q (.int xs.length) H := h
        exact vW_mono (x := a) (fun u ⟨p, xs, e1, e2, q⟩ => ⟨p, xs, by rw [e1], .inl (SqL.of e2), q⟩) h
      · refine pe_weak (pe_callTy call_int1 hg (A.mgb (by decide)) (by decide +kernel) (pa_cons (ih b q5) pa_nil (starEach_cons hs)) (hn := (okName_db ok).2.2) (hdb := (okName_db ok).1) (he := starEach_cons hs)) fun σ H Q h => ?_
        have h : vW H σ a fun u => ∃ i, u = .int i ∧ Q (.int i) H := h
        exact vW_mono (x := a) (fun u ⟨i, e1, q⟩ => .inl ⟨i, by rw [e1], q⟩) h
  · cases q0
theorem vE (hf : n.fl = f0) (A : At n S C X W) : ∀ (x : Ex) (e : Expr), (chk n x).e X.env.scope e = true → PE X e (fun σ H Q => vW H σ x fun v => Q v H)
  | .var i, e, q => by
    have q0 := (chk_ofE q).2.2.2
    split at q0
    · simp only [Bool.and_eq_true, decide_eq_true_eq] at q0
      obtain ⟨⟨q1, q2⟩, q3⟩ := q0
      obtain ⟨d1, d2, _⟩ := okName_db q3
      exact pe_var (i := i) (by rw [A.N]; exact q1) (vis_Vis q2) d1 d2
    · cases q0
  | .int k, e, q => by
    have q0 := (chk_ofE q).2.2.2
    split at q0
    · simp only [decide_eq_true_eq] at q0
      subst q0
      exact pe_int
    · cases q0
  | .bin op a b, e, q => by
    have q0 := (chk_ofE q).2.2.2
    split at q0
    · simp only [Bool.and_eq_true] at q0
      obtain ⟨⟨q1, q2⟩, q3⟩ := q0
      have q1 := eq_of_beq q1
      subst q1
      have ho : OpR X (binaryOp (bopP op)) (fun u v H Q => ∃ i j, u = .int i ∧ v = .int j ∧ binW op (.int i) (.int j) fun r => ∃ k, r = .int k ∧ Q (.int k) H) := by
        have hI : ∀ {f : Value → Value → Sem Value} {r r' : R2}, OpR X f r → (∀ u v H Q, r' u v H Q → r u v H Q) → OpR X f r' := fun h hh pins s σ H x y v u Q I r1 r2 q => h pins s σ H x y v u Q I r1 r2 (hh _ _ _ _ q)
        cases op with
        | add => exact hI op_add fun u v H Q ⟨i, j, e1, e2, k, e3, q⟩ => ⟨i, j, e1, e2, by cases e3; exact q⟩
        | sub => exact hI op_sub fun u v H Q ⟨i, j, e1, e2, k, e3, q⟩ => ⟨i, j, e1, e2, by cases e3; exact q⟩
        | mul => exact hI op_mulG fun u v H Q ⟨i, j, e1, e2, h, k, e3, q⟩ => ⟨i, j, e1, e2, h, by cases e3; exact q⟩
        | fdv => exact hI op_fdivG fun u v H Q ⟨i, j, e1, e2, h1, h2, k, e3, q⟩ => ⟨i, j, e1, e2, ⟨h1, h2⟩, by cases e3; exact q⟩
        | mod => exact hI op_modN fun u v H Q ⟨i, j, e1, e2, h1, k, e3, q⟩ => ⟨i, j, e1, e2, h1, by cases e3; exact q⟩
        | pow => exact hI op_pow fun u v H Q ⟨i, j, e1, e2, h1, k, e3, q⟩ => ⟨i, j, e1, e2, h1, by cases e3; exact q⟩
      exact pe_op ho (vE hf A a _ q2) (vE hf A b _ q3)
    · cases q0
  | .idx a b, e, q => by
    have q0 := (chk_ofE q).2.2.2
    split at q0
    · simp only [Bool.and_eq_true] at q0
      have nb : notSlice _ = true := ((sn0 hf A b).st _ q0.2).2.2
      refine pe_weak (pe_ix ix_list (vE hf A a _ q0.1) (vE hf A b _ q0.2) (plainIx_of nb)) fun σ H Q h => ?_
      exact vW_mono (fun u h => vW_mono (fun v ⟨p, i, xs, y, e1, e2, e3, e4, q⟩ => ⟨p, xs, i, y, e1, e2, SqL.of e3, e4, q⟩) h) h
    · cases q0
  | .blt f as, e, q => vE_blt hf A f as (fun a b h => vE hf A a) e q
  | .non, e, q => pe_false (sn0 hf A _ |>.e _ q)
  | .tt _, e, q => pe_false (sn0 hf A _ |>.e _ q)
  | .str _, e, q => pe_false (sn0 hf A _ |>.e _ q)
  | .con _, e, q => pe_false (sn0 hf A _ |>.e _ q)
  | .fnv _, e, q => pe_false (sn0 hf A _ |>.e _ q)
  | .neg _, e, q => pe_false (sn0 hf A _ |>.e _ q)
  | .not _, e, q => pe_false (sn0 hf A _ |>.e _ q)
  | .cmp _ _ _, e, q => pe_false (sn0 hf A _ |>.e _ q)
  | .cmp2 _ _ _ _ _, e, q => pe_false (sn0 hf A _ |>.e _ q)
  | .and _ _, e, q => pe_false (sn0 hf A _ |>.e _ q)
  | .or _ _, e, q => pe_false (sn0 hf A _ |>.e _ q)
  | .one _, e, q => pe_false (sn0 hf A _ |>.e _ q)
  | .ite _ _ _, e, q => pe_false (sn0 hf A _ |>.e _ q)
  | .call _ _, e, q => pe_false (sn0 hf A _ |>.e _ q)
  | .callv _ _ _, e, q => pe_false (sn0 hf A _ |>.e _ q)
  | .isi _ _, e, q => pe_false (sn0 hf A _ |>.e _ q)
  | .slc _ _ _, e, q => pe_false (sn0 hf A _ |>.e _ q)
  | .rev _, e, q => pe_false (sn0 hf A _ |>.e _ q)
  | .tup _, e, q => pe_false (sn0 hf A _ |>.e _ q)
  | .lst _, e, q => pe_false (sn0 hf A _ |>.e _ q)
  | .comp _ _ _ _ _, e, q => pe_false (sn0 hf A _ |>.e _ q)
  | .rng1 _, e, q => pe_false (sn0 hf A _ |>.e _ q)
  | .rng2 _ _, e, q => pe_false (sn0 hf A _ |>.e _ q)
  | .rng3 _ _ _, e, q => pe_false (sn0 hf A _ |>.e _ q)
  | .trg _ _ _, e, q => pe_false (sn0 hf A _ |>.e _ q)
  | .zip _ _, e, q => pe_false (sn0 hf A _ |>.e _ q)
  | .enum _, e, q => pe_false (sn0 hf A _ |>.e _ q)
  | .lix _ _, e, q => pe_false (sn0 hf A _ |>.e _ q)
  | .cnt _ _, e, q => pe_false (sn0 hf A _ |>.e _ q)
  | .dnew, e, q => pe_false (sn0 hf A _ |>.e _ q)
  | .dgt _ _ _, e, q => pe_false (sn0 hf A _ |>.e _ q)
  | .dvw _ _, e, q => pe_false (sn0 hf A _ |>.e _ q)
  | .dco _ _ _ _ _ _, e, q => pe_false (sn0 hf A _ |>.e _ q)
  | .dd1 _ _, e, q => pe_false (sn0 hf A _ |>.e _ q)
  | .isx _ _, e, q => pe_false (sn0 hf A _ |>.e _ q)
  | .lam _ _, e, q => pe_false (sn0 hf A _ |>.e _ q)
  | .thk _, e, q => pe_false (sn0 hf A _ |>.e _ q)
  | .nil, e, q => pe_false (sn0 hf A _ |>.e _ q)
  | .cons _ _, e, q => pe_false (sn0 hf A _ |>.e _ q)
  | .own _, e, q => pe_false (sn0 hf A _ |>.e _ q)
termination_by x => sizeOf x
decreasing_by all_goals (first | (subst_vars; simp_wf; omega) | (simp_wf; omega))
end
end Rk

set_option maxHeartbeats 4000000
namespace Rk
open PySem PySem.Spec PyProof.Rows L2
section
variable {n : Nms} {S : Sig} {C : Cfg} {X : Cx} {W : WX} {cn : Cns}

theorem op_cmpI (op : Cop) : OpR X (compareOp (copP op)) (fun u v H Q => ∃ i j k, u = .int i ∧ v = .int j ∧ cmpI op i j = some k ∧ Q (.bl k) H) := by
  have hI : ∀ {f : Value → Value → Sem Value} {r r' : R2}, OpR X f r → (∀ u v H Q, r' u v H Q → r u v H Q) → OpR X f r' := fun h hh pins s σ H x y v u Q I r1 r2 q => h pins s σ H x y v u Q I r1 r2 (hh _ _ _ _ q)
  cases op with
  | eq =>
    refine hI op_eq fun u v H Q h => ?_
    obtain ⟨i, j, k, rfl, rfl, e3, q⟩ := h
    cases e3
    refine ⟨rfl, ?_⟩
    have e : decide (V.int i = V.int j) = decide (i = j) := by simp
    show Q (.bl (decide (V.int i = V.int j))) H
    rw [e]
    exact q
  | lt => exact hI op_lt fun u v H Q ⟨i, j, k, e1, e2, e3, q⟩ => ⟨i, j, e1, e2, by cases e3; exact q⟩
  | gt => exact hI op_gt fun u v H Q ⟨i, j, k, e1, e2, e3, q⟩ => ⟨i, j, e1, e2, by cases e3; exact q⟩
  | ge => exact hI op_ge fun u v H Q ⟨i, j, k, e1, e2, e3, q⟩ => ⟨i, j, e1, e2, by cases e3; exact q⟩
  | _ => exact fun pins s σ H x y v u Q I r1 r2 ⟨i, j, k, e1, e2, e3, q⟩ => by cases e3
theorem vT_mono {H : Hp} {σ : L2.St} : ∀ {x : Ex} {Q Q' : Bool → Prop}, (∀ v, Q v → Q' v) → vT H σ x Q → vT H σ x Q' := by
  intro x
  induction x <;> intro Q Q' hq h <;> first | exact h.elim | skip
  · simp only [vT] at h ⊢
    exact vW_mono (fun u h => vW_mono (fun v ⟨i, j, k, e1, e2, e3, q⟩ => ⟨i, j, k, e1, e2, e3, hq _ q⟩) h) h
  · rename_i a b iha ihb
    simp only [vT] at h ⊢
    refine iha (fun k h => ?_) h
    cases k with
    | true => exact ihb hq h
    | false => exact hq _ h
  · rename_i a iha
    exact iha hq h
structure Vts (n : Nms) (X : Cx) (x : Ex) : Prop where
  t : ∀ e, (chk n x).e X.env.scope e = true → PT X e (fun σ H Q => vT H σ x fun k => Q k H)
  w : ∀ e, (chk n x).e X.env.scope e = true → isBool e = true → PW X e (fun σ H Q => vT H σ x fun k => Q k H)
theorem vts_no (hf : n.fl = f0) (A : At n S C X W) {x : Ex} (h : ∀ H σ Q, ¬ vT H σ x Q) : Vts n X x :=
  have I := sn0 hf A x
  { t := fun e q => pt_weak (I.t e q) fun σ H Q z => (h _ _ _ z).elim, w := fun e q z => pw_weak (I.w e q z) fun σ H Q z => (h _ _ _ z).elim }
theorem vts (hf : n.fl = f0) (A : At n S C X W) (x : Ex) : Vts n X x := by
  induction x with
  | cmp op a b =>
    refine ⟨fun e q => ?_, fun e q z => ?_⟩
    · have q0 := (chk_ofE q).2.2.2
      split at q0
      · simp only [Bool.and_eq_true] at q0
        obtain ⟨⟨q1, q2⟩, q3⟩ := q0
        have q1 := eq_of_beq q1
        subst q1
        have nm := nomark_of (op := copP op) ((sn0 hf A b).st _ q3).2.1
        refine pt_weak (pt_cmpR (op_cmpI op) (vE hf A a _ q2) (vE hf A b _ q3) nm) fun σ H Q h => ?_
        simp only [vT] at h
        exact vW_mono (fun u h => vW_mono (fun v ⟨i, j, k, e1, e2, e3, q⟩ => ⟨i, j, k, e1, e2, e3, k, rfl, q⟩) h) h
      · cases q0
    · have q0 := (chk_ofE q).2.2.2
      split at q0
      · cases z
      · cases q0
  | and a b iha ihb =>
    have hw : ∀ x y r pos, (chk n a).e X.env.scope x = true → (chk n b).e X.env.scope (.BoolOp .And (y :: r) pos) = true → PW X (.BoolOp .And (x :: y :: r) pos) (fun σ H Q => vT H σ (.and a b) fun k => Q k H) := fun x y r pos q1 q2 => by
      refine pw_weak (pw_and (iha.t _ q1) (ihb.w _ q2 rfl)) fun σ H Q h => ?_
      simp only [vT] at h
      refine vT_mono (fun k h => ?_) h
      cases k with
      | true => exact h
      | false => exact h
    refine ⟨fun e q => ?_, fun e q z => ?_⟩
    · have q0 := (chk_ofE q).2.2.2
      split at q0
      · simp only [Bool.and_eq_true] at q0
        exact (hw _ _ _ _ q0.1 q0.2).pt
      · cases q0
    · have q0 := (chk_ofE q).2.2.2
      split at q0
      · simp only [Bool.and_eq_true] at q0
        exact hw _ _ _ _ q0.1 q0.2
      · cases q0
  | one a iha =>
    have hw : ∀ op x pos, (chk n a).e X.env.scope x = true → PW X (.BoolOp op [x] pos) (fun σ H Q => vT H σ (.one a) fun k => Q k H) := fun op x pos q1 => by
      cases op with
      | And => exact pw_and1 (iha.t _ q1)
      | Or => exact pw_or1 (iha.t _ q1)
    refine ⟨fun e q => ?_, fun e q z => ?_⟩
    · have q0 := (chk_ofE q).2.2.2
      split at q0
      · exact (hw _ _ _ q0).pt
      · cases q0
    · have q0 := (chk_ofE q).2.2.2
      split at q0
      · exact hw _ _ _ q0
      · cases q0
  | _ => exact vts_no hf A fun _ _ _ h => h

structure Vs (n : Nms) (X : Cx) (x : Vx) : Prop where
  one : ∀ st, (chkV n x).one X.env.scope st = true → PS X st (fun D σ H => wpV x D σ H)
  blk : ∀ sts, (chkV n x).blk X.env.scope sts = true → PSs X sts (fun D σ H => wpV x D σ H)
theorem Vs.ofS {f : Scope → Stmt → Bool} {x : Vx} (hf : chkV n x = Chs.ofS f) (h : ∀ st, f X.env.scope st = true → PS X st (fun D σ H => wpV x D σ H)) : Vs n X x where
  one := fun st q => h st (by rw [hf] at q; exact q)
  blk := fun sts q => by
    rw [hf] at q
    cases q
theorem vs (hf : n.fl = f0) (A : AtS n S C cn X W) (x : Vx) : Vs n X x := by
  have hN : X.N.Nodup := by rw [A.N]; exact A.nd
  induction x with
  | nil =>
    refine ⟨fun st q => (by cases q), fun sts q => ?_⟩
    cases sts with
    | cons _ _ => cases q
    | nil => exact pss_nil
  | seq a b ia ib =>
    refine ⟨fun st q => (by cases q), fun sts q => ?_⟩
    cases sts with
    | nil => cases q
    | cons st r =>
      have q : ((chkV n a).one X.env.scope st && (chkV n b).blk X.env.scope r) = true := q
      simp only [Bool.and_eq_true] at q
      exact pss_cons (ia.one st q.1) (ib.blk r q.2)
  | set i x =>
    refine Vs.ofS rfl fun st q => ?_
    split at q
    · rename_i y py e pos
      simp only [Bool.and_eq_true, decide_eq_true_eq] at q
      obtain ⟨⟨⟨h1, h2⟩, h3⟩, h4⟩ := q
      exact ps_set hN (by rw [A.N]; exact h1) (loc_Loc h2) (vE hf A.toAt x e h3) (sw_no h4) (.inl (A.fn y))
    · cases q
  | sto o k x =>
    refine Vs.ofS rfl fun st q => ?_
    split at q
    · rename_i oe ki p2 e pos
      simp only [Bool.and_eq_true] at q
      obtain ⟨⟨⟨⟨h1, h2⟩, h3⟩, h4⟩, h5⟩ := q
      refine ps_weak (ps_asg (vE hf A.toAt x e h3) (pg_sub (vE hf A.toAt o oe h1) (vE hf A.toAt k ki h2) set_list (fun v => ?_)) (by unfold swapsWithSole; exact sw_no h4) rfl rfl) fun D σ H h => ?_
      · cases ki <;> first | rfl | (cases h5; done)
      · exact vW_mono (x := x) (fun v h => vW_mono (x := o) (fun u h => vW_mono (x := k) (fun w ⟨p, z, xs, j, e1, e2, e3, e4, q⟩ => ⟨p, xs, z, j, e1, e2, e3, e4, q⟩) h) h) h
    · cases q
  | pop0 o =>
    refine Vs.ofS rfl fun st q => ?_
    split at q
    · rename_i oe ki p m ap z zk zp cp pos
      simp only [Bool.and_eq_true, decide_eq_true_eq] at q
      obtain ⟨⟨⟨h1, h2⟩, h3⟩, h4⟩ := q
      subst h2
      subst h3
      refine ps_weak (ps_expr (pe_bm PySem.F.plainAttrs_list PySem.F.slot_list_pop PySem.F.type_list_pop mt_popAt (vE hf A.toAt o _ h1) (pa_cons pe_int pa_nil rfl) rfl rfl h4 rfl rfl) rfl) fun D σ H h => ?_
      refine vW_mono (x := o) (fun u ⟨p, x, xs, e1, e2, q⟩ => ?_) h
      subst e1
      exact ⟨.inl ⟨rfl, _, SqL.of e2⟩, p, x :: xs, 0, 0, x, rfl, rfl, e2, by decide, by decide, (by unfold seqIndex?; simp), rfl, q⟩
    · cases q
  | ite c a b ia ib =>
    refine Vs.ofS rfl fun st q => ?_
    split at q
    · simp only [Bool.and_eq_true] at q
      obtain ⟨⟨h1, h2⟩, h3⟩ := q
      exact ps_weak (ps_if ((vts hf A.toAt c).t _ h1) (ia.blk _ h2) (ib.blk _ h3)) fun D σ H h => h
    · cases q
  | ret x =>
    refine Vs.ofS rfl fun st q => ?_
    split at q
    · exact ps_ret (vE hf A.toAt x _ q)
    · cases q
end
end Rk

set_option maxHeartbeats 4000000
namespace Rk
open PySem PySem.Spec PyProof.Rows L2
section
variable {n : Nms} {cn : Cns} {S : Sig} {C : Cfg} {P : Program} {w : World} {mg : Str → Option Value} {base : Heap} {k : Nat} {f : Addr} {x qual : Str} {st : Stmt} {fd : FuncData} {ar : List Str} {g g0 g1 g' : Gh} {H H0 H1 H' : Hp}
/-- a hand's cells are written -/
theorem Step.tokW (w0 : W0 C g H) {a c : Addr} (h : (a, c) ∈ g.T) (hk : C.HK H' a c) (same : ∀ b, b ≠ a → b ≠ c → H' b = H b) : Step C g H g H' := by
  obtain ⟨h1, ga, gc⟩ := w0.tok _ h
  obtain ⟨⟨xa, ha⟩, ⟨xc, hc⟩, _⟩ := C.hl _ _ _ h1
  obtain ⟨⟨ya, ha'⟩, ⟨yc, hc'⟩, _⟩ := C.hl _ _ _ hk
  have off : ∀ b u, H b = some u → (∀ xs, u ≠ .lst xs) → H' b = some u := fun b u e hn => by
    rw [same b (fun z => ?_) fun z => ?_]
    · exact e
    · rw [z] at e
      rw [show H a = some (.lst xa) from ha] at e
      exact hn _ (Option.some.inj e).symm
    · rw [z] at e
      rw [show H c = some (.lst xc) from hc] at e
      exact hn _ (Option.some.inj e).symm
  refine ⟨Le.refl g, ⟨fun b o e => ?_, w0.ntb, fun p hp => ?_, fun q hq => ?_, w0.dj⟩, fun b e => ?_, fun b u e _ fr => ?_, fun b o e n => ?_, fun q hq => .inl hq, rfl, rfl⟩
  · rw [same b (fun z => by rw [z, show g.G a = none from ga] at e; cases e) (fun z => by rw [z, show g.G c = none from gc] at e; cases e)]
    exact w0.sub b o e
  · obtain ⟨ps, q1, q2, q3⟩ := w0.tab p hp
    refine ⟨ps, off _ _ q1 (fun xs z => by cases z), q2, fun pos cv hcv => ?_⟩
    obtain ⟨d, e1, e2⟩ := q3 pos cv hcv
    exact ⟨d, e1, off _ _ e2 fun xs z => by cases z⟩
  · rcases w0.dj _ _ h hq with e | ⟨d1, d2, d3, d4⟩
    · rw [← e]
      exact ⟨hk, ga, gc⟩
    · obtain ⟨t1, t2, t3⟩ := w0.tok q hq
      exact ⟨C.hk _ _ _ _ t1 (same _ (Ne.symm d1) (Ne.symm d3)) (same _ (Ne.symm d2) (Ne.symm d4)), t2, t3⟩
  · by_cases z : b = a
    · rw [z] at e
      exact (e.no ha' fun ps z => by cases z).elim
    · by_cases z2 : b = c
      · rw [z2] at e
        exact (e.no hc' fun ps z => by cases z).elim
      · exact fun o ho => e o (by rw [same b z z2]; exact ho)
  · obtain ⟨f1, f2⟩ := fr _ h
    rw [same b f1 f2]
    exact e
  · rw [n] at e
    cases e
/-- a new hand -/
theorem Step.tokN (s : Step C g0 H0 g1 H1) {a c : Addr} (hk : C.HK H1 a c) (ga : g1.G a = none) (gc : g1.G c = none) (na : Nt H0 a) (nc : Nt H0 c) (fa : Free g1.T a) (fc : Free g1.T c) : Step C g0 H0 ⟨g1.G, (a, c) :: g1.T, g1.E, g1.F⟩ H1 := by
  refine ⟨⟨s.le.G, fun p h => List.mem_cons_of_mem _ (s.le.T p h)⟩, ⟨s.w.sub, s.w.ntb, s.w.tab, fun q hq => ?_, fun p q hp hq => ?_⟩, s.dom, s.frame, s.new, fun q hq => ?_, s.E, s.F⟩
  · rcases List.mem_cons.mp hq with e | hq
    · subst e
      exact ⟨hk, ga, gc⟩
    · exact s.w.tok q hq
  · rcases List.mem_cons.mp hp with e1 | hp <;> rcases List.mem_cons.mp hq with e2 | hq
    · exact .inl (e1.trans e2.symm)
    · subst e1
      exact .inr ⟨(fa q hq).1, (fa q hq).2, (fc q hq).1, (fc q hq).2⟩
    · subst e2
      exact .inr ⟨Ne.symm (fa p hp).1, Ne.symm (fc p hp).1, Ne.symm (fa p hp).2, Ne.symm (fc p hp).2⟩
    · exact s.w.dj p q hp hq
  · rcases List.mem_cons.mp hq with e | hq
    · subst e
      exact .inr ⟨na, nc⟩
    · exact s.newT q hq

/-! ### a draw -/
def drawSpec : FSpec where
  ar := 2
  run := fun as Q _ => ∃ a c m, as = [.tok a c, .int m] ∧ 0 < m ∧ m < 2 ^ 200 ∧ ∀ r, 0 ≤ r → r < m → Q (.int r)
  len := fun as Q E ⟨a, c, m, e, _⟩ => by rw [e]; rfl
  mono := fun as Q Q' E E' hq he ⟨a, c, m, e, h1, h2, h⟩ => ⟨a, c, m, e, h1, h2, fun r h3 h4 => hq _ (h r h3 h4)⟩
theorem atS_of {Nm : List Str} {sc : Scope} {cdv : Value} {A : Around} {outer : List Env} {s : Shared} {E : XK} (hk : sc.kind = .function) (nd : Nm.Nodup) (L : Lib ⟨Nm, n.fn, n.cn, n.wn, n.cl, f0⟩ S C P w mg base k) (R : Crs cn C mg) (room : Room k (A.deeper (envOfC qual sc s.heap.objs.size f cdv))) (gd : A.guards = some []) :
    AtS ⟨Nm, n.fn, n.cn, n.wn, n.cl, f0⟩ S C cn (cxOf (L2.CX P w) P w C.K mg base Nm qual sc f cdv A outer s H E) (fun cls d _ H' => E cls d H') := by
  have tk : Takes (cxOf (L2.CX P w) P w C.K mg base Nm qual sc f cdv A outer s H E) (fun cls d _ H' => E cls d H') := takes_of rfl rfl rfl rfl
  have kd : (cxOf (L2.CX P w) P w C.K mg base Nm qual sc f cdv A outer s H E).env.blockKind = .function := by
    show (if sc.kind.isAnnotationScope then ScopeKind.function else sc.kind) = .function
    rw [hk]
    rfl
  have At0 : At ⟨Nm, n.fn, n.cn, n.wn, n.cl, f0⟩ S C (cxOf (L2.CX P w) P w C.K mg base Nm qual sc f cdv A outer s H E) (fun cls d _ H' => E cls d H') := { N := rfl, nd := nd, K := rfl, calm := fun _ => rfl, gd := gd, tk := tk, lib := ⟨k, L, fun _ => room⟩, hu := room.units, tcw := fun _ => rfl, lm := fun z => (by cases z) }
  exact ⟨At0, passes_of rfl, fun _ => rfl, kd, R, fun _ => rfl, rfl⟩
theorem draw_ok {Nm : List Str} {vx : Vx} (F : L2.Fun C.K x qual st f fd) (Sc : FnScope Nm ar (defScope st)) (h2 : ar.length = 2) (L : Lib ⟨Nm, n.fn, n.cn, n.wn, n.cl, f0⟩ S C P w mg base k) (R : Crs cn C mg) (hk : (chkV ⟨Nm, n.fn, n.cn, n.wn, n.cl, f0⟩ vx).blk (defScope st) (defBody st) = true)
    (hv : ∀ (H : Hp) (a c : Addr) (m : Int) (D : Ends), C.HK H a c → 0 < m → m < 2 ^ 200 → (∀ r H', 0 ≤ r → r < m → C.HK H' a c → (∀ b, b ≠ a → b ≠ c → H' b = H b) → D.rt (.int r) H') → wpV vx D (L2.start Nm [.ref a, .int m]) H) :
    FnG P w C.K mg base (k + 1) f fd ar (spOf C drawSpec) := by
  refine fnG_of F Sc (fun vs H Q E h => ?_) fun cdv A outer s H vs Q E room gd _ h => ?_
  · obtain ⟨g, ps, _, _, r, a, c, m, e, _⟩ := h
    rw [← r.len, e, h2]
    rfl
  · obtain ⟨g, ps, cold, w0, r, a, c, m, e, m0, m1, h⟩ := h
    subst e
    obtain ⟨v1, _, rfl, r1, v2, _, rfl, r2, rfl⟩ := r
    obtain ⟨rfl, ht⟩ := r1
    cases (show v2 = V.int m from r2)
    refine ⟨_, (vs rfl (atS_of Sc.kind Sc.nd L R room gd) vx).blk _ hk, hv H a c m _ (w0.tok _ ht).1 m0 m1 fun q H' q0 q1 hk' same => ?_⟩
    exact h q q0 q1 g H' _ (Step.tokW w0 ht hk' same) rfl

/-! ### the hand itself -/
def handSpec : FSpec where
  ar := 1
  run := fun as Q _ => ∃ ns, as = [.scr ns] ∧ ∀ a c, Q (.tok a c)
  len := fun as Q E ⟨ns, e, _⟩ => by rw [e]; rfl
  mono := fun as Q Q' E E' hq he ⟨ns, e, h⟩ => ⟨ns, e, fun a c => hq _ (h a c)⟩
def chkH (n : Nms) (cn : Cns) (sx : Sx) (i : Nat) (as : Ex) (sc : Scope) : List Stmt → Bool := fun sts => match sts.getLast? with
  | some (.Return (some (.List (.Name y _ :: es) _)) _) => (chkS n cn sx).blk sc sts.dropLast && decide (n.N[i]? = some y) && vis sc y && okName y && (chk n as).a sc es
  | _ => false
/-- a block, then more -/
theorem sns_more {X : Cx} {W : WX} {rest : List Stmt} {u : TS} (A : AtS n S C cn X W) (T : TieS n S C g0 H0 X W) (hr : PSs X rest u) : ∀ (sx : Sx) (sts : List Stmt), (chkS n cn sx).blk X.env.scope sts = true →
    PSs X (sts ++ rest) (fun D σ H => ∃ g ρ, Rel C g0 H0 g H ρ σ ∧ wpS S sx ρ (KW C g0 H0 W g { D with nx := u D }))
  | .nil, sts, q => by
    cases sts with
    | cons _ _ => cases q
    | nil => exact pss_weak hr fun D σ H ⟨g, ρ, rel, h⟩ => h g H σ (Le.refl g) rel
  | .seq s1 s2, sts, q => by
    have q : (if isGhost s1 then (chkS n cn s2).blk X.env.scope sts else match (generalizing := false) sts with
        | [] => false
        | st :: r => (chkS n cn s1).one X.env.scope st && (chkS n cn s2).blk X.env.scope r) = true := q
    split at q
    · rename_i hz
      cases s1 <;> first | (cases hz; done) | skip
      rename_i i
      refine pss_weak (pss_lock (sns_more A T hr s2 sts q)) fun D σ H ⟨g, ρ, rel, h⟩ => ?_
      simp only [wpS] at h
      split at h
      · rename_i xs e
        obtain ⟨g', l, rel'⟩ := rel.frzL e
        exact .inl ⟨g', _, rel', wpS_mono S s2 _ _ _ (KW.up l) h⟩
      · rename_i xs e
        obtain ⟨a, vs, ha, k⟩ := rel.frzD e
        refine .inr ⟨a, .dK vs, ha, trivial, fun od => ?_⟩
        obtain ⟨g', l, rel'⟩ := k od
        exact ⟨g', _, rel', wpS_mono S s2 _ _ _ (KW.up l) h⟩
      · exact h.elim
    · cases sts with
      | nil => cases q
      | cons st r =>
        simp only [Bool.and_eq_true] at q
        refine pss_weak (pss_cons ((sns (g0 := g0) (H0 := H0) s1 X W A T).one st q.1) (sns_more A T hr s2 r q.2)) fun D σ H ⟨g, ρ, rel, h⟩ => ?_
        refine ⟨g, ρ, rel, wpS_mono S s1 _ _ _ ?_ h⟩
        exact ⟨fun ρ2 h g2 H2 σ2 l2 r2 => ⟨g2, ρ2, r2, wpS_mono S s2 _ _ _ (KW.up l2) h⟩, fun _ h => h, fun _ h => h, fun _ h => h, fun _ h => h⟩
  | .pass, _, q => by cases q
  | .brk, _, q => by cases q
  | .cnt, _, q => by cases q
  | .set _ _ _, _, q => by cases q
  | .setD _, _, q => by cases q
  | .frz _, _, q => by cases q
  | .unp _ _, _, q => by cases q
  | .par _ _ _ _ _ _, _, q => by cases q
  | .par3 _ _ _ _ _ _, _, q => by cases q
  | .aug _ _ _, _, q => by cases q
  | .app _ _, _, q => by cases q
  | .ext _ _, _, q => by cases q
  | .appP _ _ _, _, q => by cases q
  | .popS _ _, _, q => by cases q
  | .sto _ _ _, _, q => by cases q
  | .stoD _ _ _, _, q => by cases q
  | .exp _, _, q => by cases q
  | .ite _ _ _, _, q => by cases q
  | .for_ _ _ _, _, q => by cases q
  | .whl _ _, _, q => by cases q
  | .ret _, _, q => by cases q
  | .retN, _, q => by cases q
  | .rse _, _, q => by cases q
  | .dead, _, q => by cases q
  | .tri _ _ _ _, _, q => by cases q
theorem RPs.onInts {C : Cfg} {g : Gh} : ∀ {ns : List Int} {vs : List V}, RPs C g (ns.map PV.int) vs → vs = ns.map V.int
  | [], _, h => h
  | i :: ns, _, h => by
    obtain ⟨v, r, rfl, h1, h2⟩ := h
    rw [RPs.onInts h2, show v = V.int i from h1]
    rfl
theorem hand_ok {Nm : List Str} {sx : Sx} {i : Nat} {as : Ex} (F : L2.Fun C.K x qual st f fd) (Sc : FnScope Nm ar (defScope st)) (h1 : ar.length = 1) (L : Lib ⟨Nm, n.fn, n.cn, n.wn, n.cl, f0⟩ S C P w mg base k) (R : Crs cn C mg) (hk : chkH ⟨Nm, n.fn, n.cn, n.wn, n.cl, f0⟩ cn sx i as (defScope st) (defBody st) = true)
    (mk : List Int → List Int → Prop) (hm : ∀ cs zs, mk cs zs → zs.length < sizeLine) (hHK : ∀ (H : Hp) (a c : Addr) cs zs, mk cs zs → H a = some (.lst (.ref c :: zs.map V.int)) → H c = some (.lst (cs.map V.int)) → a ≠ c → C.HK H a c)
    (hv : ∀ ns, wpS S sx (entry Nm.length [.scr ns]) ⟨fun ρ => ∃ cs : List Int, ρ[i]? = some (.ol (cs.map PV.int)) ∧ (den S as).a ρ (fun ps => ∃ zs : List Int, ps = zs.map PV.int ∧ mk cs zs) (fun _ => False), fun _ => False, fun _ => False, fun _ => False, fun _ => False⟩) :
    FnG P w C.K mg base (k + 1) f fd ar (spOf C handSpec) := by
  have hpl : ar.length ≤ Nm.length := by
    have z := congrArg List.length Sc.pre
    rw [List.length_take] at z
    omega
  refine fnG_of F Sc (fun vs H Q E h => ?_) fun cdv A outer s H vs Q E room gd _ h => ?_
  · obtain ⟨g, ps, _, _, r, ns, e, _⟩ := h
    rw [← r.len, e, h1]
    rfl
  · obtain ⟨g, ps, cold, w0, r, ns, e, h⟩ := h
    subst e
    have A1 := atS_of (H := H) (qual := qual) (f := f) (cdv := cdv) (outer := outer) (s := s) (E := E) Sc.kind Sc.nd L R room gd
    unfold chkH at hk
    split at hk
    · rename_i y py es pos ppos hlast
      simp only [Bool.and_eq_true, decide_eq_true_eq] at hk
      obtain ⟨⟨⟨⟨k1, k2⟩, k3⟩, k4⟩, k5⟩ := hk
      obtain ⟨db, cd, nm⟩ := okName_db k4
      have hb : defBody st = (defBody st).dropLast ++ [.Return (some (.List (.Name y py :: es) pos)) ppos] := by
        obtain ⟨z, hz⟩ := List.getLast?_eq_some_iff.mp hlast
        rw [hz]
        simp
      rw [hb]
      have ia := (snd (g0 := g) (H0 := H) as _ _ A1.toAt (tie_f0 rfl cold)).a es k5
      have hret := pss_one (ps_ret (pos := ppos) (pe_lst (pos := pos) (pa_cons (pe_var (pos := py) (i := i) (X := cxOf (L2.CX P w) P w C.K mg base Nm qual (defScope st) f cdv A outer s H E) k2 (vis_Vis k3) db cd) ia.2 rfl)))
      refine ⟨_, sns_more (g0 := g) (H0 := H) A1 ⟨tie_f0 rfl cold, fun _ z => (by cases z)⟩ hret sx _ k1, g, _, rel_start (by rw [h1] at hpl; exact hpl) w0 r, wpS_mono S sx _ _ _ ?_ (hv ns)⟩
      refine ⟨fun ρ z g1 H1 σ1 l1 rel => ?_, fun _ z => z.elim, fun _ z => z.elim, fun _ z => z.elim, fun _ z => z.elim⟩
      obtain ⟨cs, e1, z⟩ := z
      obtain ⟨c, vs, e2, q1, q2, q3, q4, q5⟩ := ol_of rel e1
      refine ⟨.ref c, e2, ?_⟩
      refine tA_in (den_mono S as) rel z (fun ps g2 H2 us s2 rel2 rps hz => ?_) fun x z => z.elim
      obtain ⟨zs, e3, hmk⟩ := hz
      subst e3
      have ei := RPs.onInts rps
      subst ei
      obtain ⟨c', vs', e2', q1', q2', q3', q4', q5'⟩ := ol_of rel2 e1
      rw [e2] at e2'
      cases e2'
      have ec := RPs.onInts q2'
      subst ec
      refine ⟨by simpa using Nat.succ_le_of_lt (hm _ _ hmk), fun a na => ?_⟩
      have hac : a ≠ c := fun z => by
        rw [z, q1'] at na
        cases na
      have s3 := (rel2.step).trans (Step.lay (o := .lst (.ref c :: zs.map V.int)) rel2.w na)
      have s4 := s3.tokN (hHK _ a c cs zs hmk upd_same (by rw [upd_ne (Ne.symm hac)]; exact q1') hac) (rel2.w.none_of na) q3' (rel2.step.dom _ (.of na)) q4' (rel2.w.free_new na) q5'
      exact h a c _ _ (.ref a) s4 ⟨rfl, List.mem_cons_self⟩
    · cases hk
end
end Rk

set_option maxHeartbeats 4000000
namespace Rk
open PySem PySem.Spec PyProof.Rows L2

/-- what is tracked at the law's call: the script's list, if the base does not keep it; the tables of code objects, empty -/
def scrH (K : PySem.W.Frag) (a : Addr) (o : Obj) (xs : List V) (ts : List Addr) : Hp := fun b => if b = a ∧ K.lookup a = none then some (.frz o (.lst xs)) else if b ∈ ts then some (.tbl #[]) else none
theorem scrH_cases (K : PySem.W.Frag) (a : Addr) (o : Obj) (xs : List V) (ts : List Addr) (b : Addr) :
    scrH K a o xs ts b = none ∨ (b = a ∧ K.lookup a = none ∧ scrH K a o xs ts b = some (.frz o (.lst xs))) ∨ (b ∈ ts ∧ scrH K a o xs ts b = some (.tbl #[])) := by
  by_cases h : b = a ∧ K.lookup a = none
  · exact .inr (.inl ⟨h.1, h.2, if_pos h⟩)
  · by_cases h2 : b ∈ ts
    · exact .inr (.inr ⟨h2, (if_neg h).trans (if_pos h2)⟩)
    · exact .inl ((if_neg h).trans (if_neg h2))
abbrev tab0 : Obj := { cls := .none, data := .fields #[] }
/-- what is known of the tables where the law is called -/
structure Tbs (C : Cfg) (h : Heap) : Prop where
  get : ∀ q, q ∈ C.Tb → h.get? q.1 = some tab0
  no : ∀ q, q ∈ C.Tb → C.K.lookup q.1 = none
  cd : ∀ q, q ∈ C.Tb → ∃ c, PySem.W.CodeHd h c q.1
/-- the law's call, by the promise of its def -/
theorem law_end {P : Program} {w : World} {C : Cfg} {mg mb : Str → Option Value} {k : Nat} {fa a : Addr} {fd : FuncData} {x : Str} {Φ : FSpec} {s : Shared} {us : List Value} {ns : List Int}
    (inK : C.K.In s.heap) (gl : s.heap.Ns mainGlobals mg) (bl : s.heap.Ns builtinsNs mb) (bb : ∀ y : Str, y ≠ "__name__" → mb y = bootBuiltins y) (nl : s.heap.NoLimit) (gn : s.gens = #[])
    (hbm : ∃ (bm : Addr) (o : Obj), mg "__builtins__" = some (.ref bm) ∧ bm ≠ builtinsNs ∧ s.heap.get? bm = some o ∧ o.cls = .type "module" ∧ o.dict = some builtinsNs ∧ o.data = .plain)
    (ob : s.heap.get? a = some { cls := .type "list", data := .seq us.toArray }) (hz : IntsAre us ns) (ln : ns.length ≤ sizeLine) (room : Room k callerA) (tb : Tbs C s.heap)
    (F : ∀ base : Heap, C.K.In base → base.Ns mainGlobals mg → (∀ c q, q ∈ C.Tb → PySem.W.CodeHd s.heap c q.1 → LamX.TabB base mg c q.1) → FnG P w C.K mg base k fa fd [x] (spOf C Φ)) (bt : ∀ (s : Shared) (u : Value), BindsTo s fd ⟨[u], []⟩ [(x, u)])
    (hΦ : Φ.run [.scr ns] (fun p => p = .bl true) fun _ => False) :
    codeAny (model P w) callerA (.call (.ref fa) ⟨[.ref a], []⟩) (fun r s' => r = .ok (.ret (.bool true)) ∧ OldK s.heap s'.heap ∧ s'.os = s.os ∧ AllBare s'.gens) s := by
  have rv := vals_ints hz
  have lv := hz.length
  let o : Obj := { cls := .type "list", data := .seq us.toArray }
  let ts : List Addr := C.Tb.map (·.1)
  let H : Hp := scrH C.K a o (ns.map V.int) ts
  have cs : ∀ b, H b = none ∨ (b = a ∧ C.K.lookup a = none ∧ H b = some (.frz o (.lst (ns.map V.int)))) ∨ (b ∈ ts ∧ H b = some (.tbl #[])) := scrH_cases C.K a o (ns.map V.int) ts
  have isT : ∀ b, b ∈ ts → s.heap.get? b = some tab0 ∧ C.K.lookup b = none ∧ ∃ c, PySem.W.CodeHd s.heap c b := fun b hb => by
    obtain ⟨q, hq, rfl⟩ := List.mem_map.mp hb
    exact ⟨tb.get q hq, tb.no q hq, tb.cd q hq⟩
  have aT : a ∉ ts := fun z => by
    have e := (isT a z).1
    rw [ob] at e
    have e2 : Data.seq us.toArray _ = Data.fields #[] := congrArg Obj.data (Option.some.inj e)
    cases e2
  have atT : ∀ b, b ∈ ts → H b = some (.tbl #[]) := fun b hb => (if_neg (fun z => aT (by rw [← z.1]; exact hb))).trans (if_pos hb)
  have sq : SqL C.K H a (ns.map V.int) := by
    cases e : C.K.lookup a with
    | none => exact .inl (.inr ⟨o, if_pos ⟨rfl, e⟩⟩)
    | some o' =>
      have e2 := inK a o' e
      rw [ob] at e2
      cases e2
      exact .inr ⟨_, us.toArray, _, e, rfl, rfl, rfl, by rw [List.size_toArray, lv]; exact ln, by simpa using rv⟩
  have ok : HOk P w H s.heap := fun b u e => by
    rcases cs b with z | ⟨rfl, _, z⟩ | ⟨hb, z⟩
    · rw [z] at e
      cases e
    · rw [z] at e
      cases e
      exact ⟨ob, by rw [List.length_map]; exact ln, us, _, rv, ob⟩
    · rw [z] at e
      cases e
      exact (isT b hb).1
  have up : ∀ {b : Addr} {u : Obj}, s.heap.get? b = some u → (∀ vs m, u.data ≠ .seq vs m) → u.data ≠ .fields #[] → (hidT s.heap H).get? b = some u := fun {b u} e hd hd2 => hidT_get e (by
    rcases cs b with z | ⟨rfl, _, z⟩ | ⟨hb, z⟩
    · exact z
    · rw [ob] at e
      cases e
      exact absurd rfl (hd _ _)
    · rw [(isT b hb).1] at e
      cases e
      exact absurd rfl hd2)
  have upNs : ∀ {b : Addr} {m : Str → Option Value}, s.heap.Ns b m → (hidT s.heap H).Ns b m := fun {b m} ⟨u, es, ep, e, d, r⟩ => ⟨u, es, ep, up e (fun vs q z => by rw [d] at z; cases z) (fun z => by rw [d] at z; cases z), d, r⟩
  have upK : C.K.In (hidT s.heap H) := fun b u e => hidT_get (inK b u e) (by
    rcases cs b with z | ⟨rfl, z2, _⟩ | ⟨hb, z⟩
    · exact z
    · rw [z2] at e
      cases e
    · rw [(isT b hb).2.1] at e
      cases e)
  have md : L2.Mod C.K mg (hidT s.heap H) := ⟨upK, upNs gl, ⟨mb, upNs bl, bb⟩, let ⟨mc, h1, h2⟩ := nl; ⟨mc, upNs h1, h2⟩⟩
  have en : Env0 P w C.K mg (hidT s.heap H) callerA [] s H := ⟨rfl, md, fun b u e => of_hidT e, Nat.le_of_eq (hidT_size _ _), trivial, fun b hb => (by cases hb), ok, .of_eq gn⟩
  have tabB : ∀ c q, q ∈ C.Tb → PySem.W.CodeHd s.heap c q.1 → LamX.TabB (hidT s.heap H) mg c q.1 := fun c q hq hc => by
    obtain ⟨bm, u, b1, b2, b3, b4, b5, b6⟩ := hbm
    obtain ⟨og, es, ep, eg, dg, _⟩ := gl
    have eT := tb.get q hq
    refine ⟨?_, ⟨bm, u, b1, b2, fun z => ?_, fun z => ?_, up b3 (fun vs m z => by rw [b6] at z; cases z) (fun z => by rw [b6] at z; cases z), b4, b5, b6⟩, fun z => ?_⟩
    · obtain ⟨oc, vs, r1, r2, r3, r4, r5, r6, r7, e1, r8, r9, r10, rest⟩ := hc
      refine ⟨oc, vs, r1, r2, r3, r4, r5, r6, r7, up e1 (fun vs m z => ?_) (fun z => ?_), r8, r9, r10, rest⟩
      · rw [r9] at z
        cases z
      · rw [r9] at z
        cases z
        simp at r10
    · rw [z, eg] at b3
      cases b3
      rw [dg] at b6
      cases b6
    · rw [z, eT] at b3
      cases b3
      cases b6
    · rw [z, eT] at eg
      cases eg
      cases dg
  have w0 : W0 C ⟨scrH C.K a o (ns.map V.int) [], [], none, none⟩ H := by
    have cs0 := scrH_cases C.K a o (ns.map V.int) []
    refine ⟨fun b u e => ?_, fun b ps e => ?_, fun p hp => LamX.TabS.nil (atT _ (List.mem_map.mpr ⟨p, hp, rfl⟩)), fun p hp => (by cases hp), fun p q hp => (by cases hp)⟩
    · rcases cs0 b with z | ⟨z1, z2, z⟩ | ⟨z1, _⟩
      · rw [show scrH C.K a o (ns.map V.int) [] b = some u from e] at z
        cases z
      · rw [show scrH C.K a o (ns.map V.int) [] b = some u from e] at z
        cases z
        exact if_pos ⟨z1, z2⟩
      · cases z1
    · rcases cs0 b with z | ⟨_, _, z⟩ | ⟨z1, _⟩
      · rw [show scrH C.K a o (ns.map V.int) [] b = some (HO.tbl ps) from e] at z
        cases z
      · rw [show scrH C.K a o (ns.map V.int) [] b = some (HO.tbl ps) from e] at z
        cases z
      · cases z1
  have sq0 : SqL C.K (scrH C.K a o (ns.map V.int) []) a (ns.map V.int) := by
    cases e : C.K.lookup a with
    | none => exact .inl (.inr ⟨o, if_pos ⟨rfl, e⟩⟩)
    | some o' =>
      rcases sq with z | z
      · rcases z with z | ⟨o2, z⟩
        · rcases cs a with y | ⟨_, y, _⟩ | ⟨y, _⟩
          · rw [show H a = _ from z] at y
            cases y
          · rw [e] at y
            cases y
          · exact absurd y aT
        · rcases cs a with y | ⟨_, y, _⟩ | ⟨y, _⟩
          · rw [show H a = _ from z] at y
            cases y
          · rw [e] at y
            cases y
          · exact absurd y aT
      · exact .inr z
  have go := (F _ upK (upNs gl) tabB).run callerA [] s H ⟨[.ref a], []⟩ [.ref a] [.ref a] (fun v _ => v = .bl true) (fun _ _ _ => False) room rfl en (bt s (.ref a)) (.cons rfl .nil)
    ⟨⟨scrH C.K a o (ns.map V.int) [], [], none, none⟩, [.scr ns], ⟨rfl, rfl⟩, w0, RPs.cons ⟨a, rfl, sq0⟩ RPs.nil, Φ.mono _ _ _ _ _ (fun p e g' H' v st r => (by subst e; exact r)) (fun _ z => z.elim) hΦ⟩
  refine codeAny_mono go fun r s' h => ?_
  cases r with
  | error e => exact absurd h (by
      intro z
      obtain ⟨_, _, _, _, _, _, _, _, _, _, _, _, z⟩ := z
      exact z)
  | ok fl =>
    cases fl with
    | next => cases h
    | brk => cases h
    | cont => cases h
    | ret u =>
      obtain ⟨v, H', os, bare, un, ok', r', q⟩ := h
      cases (show v = V.bl true from q)
      cases (show u = Value.bool true from r')
      have grown : ∀ b, b ∈ ts → ∃ more : Array Value, s'.heap.get? b = some { cls := .none, data := .fields more } := fun b hb => by
        obtain ⟨more, z⟩ := un.tbls b #[] (atT b hb)
        exact ⟨_, ok' b _ z⟩
      have key : ∀ b u, b ∉ ts → s.heap.get? b = some u → s'.heap.get? b = some u := fun b u nb e => by
        rcases cs b with z | ⟨rfl, _, z⟩ | ⟨hb, _⟩
        · exact un.keep b u e z (fun m => by cases m) (by simp)
        · have z2 := un.frzs _ _ _ z
          rw [ob] at e
          cases e
          exact (ok' _ _ z2).1
        · exact absurd hb nb
      refine ⟨rfl, ⟨fun b u e => ?_, fun b u e => ?_⟩, os, bare⟩
      · by_cases hb : b ∈ ts
        · obtain ⟨e1, _, c, hc⟩ := isT b hb
          obtain ⟨more, hm⟩ := grown b hb
          rw [e1] at e
          cases e
          exact .inr (.inl ⟨(hc.tab e1).isCodeTable, rfl, #[], more, rfl, by rw [Array.empty_append]; exact hm⟩)
        · exact .inl (key b u hb e)
      · by_cases hb : b ∈ ts
        · obtain ⟨more, hm⟩ := grown b hb
          exact ⟨_, hm⟩
        · exact ⟨u, key b u hb e⟩

theorem walk_end {l : PySem.W.OpenLaw} {nm k : Nat} {q : Program} {loose : List Str} {XP : (Str → Option Value) → Heap → Prop} {YP : World → Heap → Prop} {d : DefRec} {K : Params → PySem.W.Frag} {x : Str}
    (hn : l.most = some nm) (hs : nm ≤ sizeLine) (hdf : d.params.defaults = []) (room : Room k callerA) (hY : ∀ (w : World) (h : Heap), YP w h → (K w.params).In h)
    (F : ∀ (w : World) (mg : Str → Option Value) (fa : Addr) (h : Heap), XP mg h → YP w h → (K w.params).In h → h.Ns mainGlobals mg → mg d.name = some (.ref fa) →
      ∃ (C : Cfg) (fd : FuncData) (Φ : FSpec), C.K = K w.params ∧ Tbs C h ∧ (∀ (s : Shared) (u : Value), BindsTo s fd ⟨[u], []⟩ [(x, u)]) ∧
        (∀ base : Heap, C.K.In base → base.Ns mainGlobals mg → (∀ c q, q ∈ C.Tb → PySem.W.CodeHd h c q.1 → LamX.TabB base mg c q.1) → FnG l.prog w C.K mg base k fa fd [x] (spOf C Φ)) ∧
        ∀ ns : List Int, ns.length ≤ nm → (∀ z ∈ ns, Builtin.Int.intBits z ≤ 1048576) → Φ.run [.scr ns] (fun p => p = .bl true) fun _ => False) :
    PySem.W.WalkO q loose XP YP l.row.toRowW d [] (fun f vs => PySem.call f vs) := by
  refine Att.attach_callB hn hdf ?_
  intro w s0 s1 mg mb fa o pm cd doc a us ns G Y ho hd hcd hmg hobj hints hlen hbits hg
  have inK := hY w _ Y
  obtain ⟨C, fd, Φ, eK, eT, bt, hF, hΦ⟩ := F w mg fa _ G.X Y inK G.T.g hmg
  exact law_end (by rw [eK]; exact inK) G.T.g G.T.b G.T.builtins G.T.nolimit hg G.T.bmain hobj hints (Nat.le_trans hlen hs) room eT hF bt (hΦ ns hlen hbits)
end Rk

set_option maxHeartbeats 4000000
namespace Rk
open PySem PySem.Spec PyProof.Rows L2

/-! ### the meaning as a program: a value, an exception, nothing said, a condition, a draw -/
inductive M (α : Type) where
  | ret (a : α)
  | exn (x : Exn)
  | bad
  | pick (n : Int) (k : Int → M α)
  | hand (k : Addr → Addr → M α)
namespace M
def bind {α β : Type} : M α → (α → M β) → M β
  | .ret a, k => k a
  | .exn x, _ => .exn x
  | .bad, _ => .bad
  | .pick n f, k => .pick n fun r => bind (f r) k
  | .hand f, k => .hand fun a c => bind (f a c) k
def wp {α : Type} : M α → (α → Prop) → (Exn → Prop) → Prop
  | .ret a, Q, _ => Q a
  | .exn x, _, E => E x
  | .bad, _, _ => False
  | .pick n f, Q, E => 0 < n ∧ n < 2 ^ 200 ∧ ∀ r, 0 ≤ r → r < n → wp (f r) Q E
  | .hand f, Q, E => ∀ a c, wp (f a c) Q E
open Classical in
/-- a condition -/
noncomputable def req {α : Type} (p : Prop) (m : M α) : M α := if p then m else .bad
theorem wp_req {α : Type} {p : Prop} {m : M α} {Q : α → Prop} {E : Exn → Prop} : (req p m).wp Q E ↔ (p ∧ m.wp Q E) := by
  unfold req
  split
  · rename_i h
    exact ⟨fun z => ⟨h, z⟩, fun z => z.2⟩
  · rename_i h
    exact ⟨fun z => z.elim, fun z => h z.1⟩
theorem bind_req {α β : Type} {p : Prop} {m : M α} {k : α → M β} : bind (req p m) k = req p (bind m k) := by
  unfold req
  split <;> rfl
theorem req_of {α : Type} {p : Prop} {m : M α} (h : p) : req p m = m := if_pos h
theorem req_ret {α : Type} {p : Prop} {m : M α} {v : α} : (req p m = .ret v) ↔ (p ∧ m = .ret v) := by
  unfold req
  split
  · rename_i h
    exact ⟨fun z => ⟨h, z⟩, fun z => z.2⟩
  · rename_i h
    exact ⟨fun z => (by cases z), fun z => absurd z.1 h⟩
theorem req_exn {α : Type} {p : Prop} {m : M α} {v : Exn} : (req p m = .exn v) ↔ (p ∧ m = .exn v) := by
  unfold req
  split
  · rename_i h
    exact ⟨fun z => ⟨h, z⟩, fun z => z.2⟩
  · rename_i h
    exact ⟨fun z => (by cases z), fun z => absurd z.1 h⟩
/-- try .. except -/
def cat {α β : Type} : M α → (α → M β) → (Exn → M β) → M β
  | .ret a, k, _ => k a
  | .exn x, _, h => h x
  | .bad, _, _ => .bad
  | .pick n f, k, h => .pick n fun r => cat (f r) k h
  | .hand f, k, h => .hand fun a c => cat (f a c) k h
theorem wp_cat {α β : Type} {k : α → M β} {h : Exn → M β} {Q : β → Prop} {E : Exn → Prop} : ∀ m : M α, (cat m k h).wp Q E → m.wp (fun a => (k a).wp Q E) (fun x => (h x).wp Q E)
  | .ret a, z => z
  | .exn x, z => z
  | .bad, z => z
  | .pick n f, z => ⟨z.1, z.2.1, fun r h1 h2 => wp_cat (f r) (z.2.2 r h1 h2)⟩
  | .hand f, z => fun a c => wp_cat (f a c) (z a c)
/-- no exception -/
def nox {α : Type} : M α → M α
  | .ret a => .ret a
  | .exn _ => .bad
  | .bad => .bad
  | .pick n f => .pick n fun r => nox (f r)
  | .hand f => .hand fun a c => nox (f a c)
theorem wp_mono {α : Type} {Q Q' : α → Prop} {E E' : Exn → Prop} (hq : ∀ v, Q v → Q' v) (he : ∀ x, E x → E' x) : ∀ m : M α, m.wp Q E → m.wp Q' E'
  | .ret a, h => hq _ h
  | .exn x, h => he _ h
  | .bad, h => h
  | .pick n f, h => ⟨h.1, h.2.1, fun r h1 h2 => wp_mono hq he (f r) (h.2.2 r h1 h2)⟩
  | .hand f, h => fun a c => wp_mono hq he (f a c) (h a c)
theorem wp_bind {α β : Type} {k : α → M β} {Q : β → Prop} {E : Exn → Prop} : ∀ m : M α, (bind m k).wp Q E = m.wp (fun a => (k a).wp Q E) E
  | .ret a => rfl
  | .exn x => rfl
  | .bad => rfl
  | .pick n f => by
    show (_ ∧ _ ∧ ∀ r, _ → _ → (bind (f r) k).wp Q E) = _
    have e : ∀ r, (bind (f r) k).wp Q E = (f r).wp (fun a => (k a).wp Q E) E := fun r => wp_bind (f r)
    simp only [e]
    rfl
  | .hand f => by
    show (∀ a c, (bind (f a c) k).wp Q E) = _
    have e : ∀ a c, (bind (f a c) k).wp Q E = (f a c).wp (fun a => (k a).wp Q E) E := fun a c => wp_bind (f a c)
    simp only [e]
    rfl
theorem nox_req {α : Type} {p : Prop} {m : M α} : nox (req p m) = req p (nox m) := by
  unfold req
  split <;> rfl
theorem wp_nox {α : Type} {Q : α → Prop} {E : Exn → Prop} : ∀ m : M α, (nox m).wp Q E → m.wp Q fun _ => False
  | .ret a, h => h
  | .exn x, h => h
  | .bad, h => h
  | .pick n f, h => ⟨h.1, h.2.1, fun r h1 h2 => wp_nox (f r) (h.2.2 r h1 h2)⟩
  | .hand f, h => fun a c => wp_nox (f a c) (h a c)
theorem bind_assoc {α β γ : Type} {k : α → M β} {l : β → M γ} : ∀ m : M α, bind (bind m k) l = bind m fun a => bind (k a) l
  | .ret a => rfl
  | .exn x => rfl
  | .bad => rfl
  | .pick n f => by
    show M.pick n (fun r => bind (bind (f r) k) l) = M.pick n _
    have e : ∀ r, bind (bind (f r) k) l = bind (f r) fun a => bind (k a) l := fun r => bind_assoc (f r)
    simp only [e]
  | .hand f => by
    show M.hand (fun a c => bind (bind (f a c) k) l) = M.hand _
    have e : ∀ a c, bind (bind (f a c) k) l = bind (f a c) fun a => bind (k a) l := fun a c => bind_assoc (f a c)
    simp only [e]
end M
open M

inductive Oc where
  | nx (ρ : Env')
  | rt (p : PV)
  | bk (ρ : Env')
  | ct (ρ : Env')

/-! ### operations -/
noncomputable def truthM : PV → M Bool
  | .non => ret false
  | .bl b => ret b
  | .int i => ret (i != 0)
  | .str s => req (s.length ≤ sizeLine) (ret ((s.length : Int) != 0))
  | .tup xs => ret (!xs.isEmpty)
  | .lst xs => ret (!xs.isEmpty)
  | _ => bad
noncomputable def binM : Bop → PV → PV → M PV
  | .add, .int i, .int j => ret (.int (i + j))
  | .add, .str x, .str y => req (x.length + y.length ≤ sizeLine) (ret (.str (x ++ y)))
  | .add, .lst xs, .lst ys => req (xs.length + ys.length ≤ sizeLine) (ret (.lst (xs ++ ys)))
  | .add, .tup xs, .tup ys => req (xs.length + ys.length ≤ sizeLine) (ret (.tup (xs ++ ys)))
  | .sub, .int i, .int j => ret (.int (i - j))
  | .mul, .int i, .int j => req (IntMulOk i j) (ret (.int (i * j)))
  | .mul, .lst xs, .int j => req (j < 2 ^ 40 ∧ -(2 ^ 40) < j ∧ xs.length * j.toNat ≤ sizeLine) (ret (.lst (List.replicate j.toNat xs).flatten))
  | .mul, .tup xs, .int j => req (xs ≠ [] ∧ (-1000 ≤ j ∧ j ≤ 1000) ∧ xs.length ≤ 1000) (ret (.tup (List.replicate j.toNat xs).flatten))
  | .fdv, .int i, .int j => req (j ≠ 0 ∧ j.natAbs.log2 < 9000) (ret (.int (i.fdiv j)))
  | .mod, .int i, .int j => req (j ≠ 0) (ret (.int (i.fmod j)))
  | .pow, .int i, .int j => req (CPow i j) (ret (.int (i ^ j.toNat)))
  | _, _, _ => bad
def keyM : PV → M Key
  | .int i => ret (.inl i)
  | .str s => ret (.inr s)
  | _ => bad
def dctM : PV → M (List (Key × PV))
  | .dct kvs => ret kvs
  | _ => bad
def olM : Option Slot → M (List PV)
  | some (.ol xs) => ret xs
  | _ => bad
def odM : Option Slot → M (List (Key × PV))
  | some (.od xs) => ret xs
  | _ => bad
noncomputable def cmpM : Cop → PV → PV → M Bool
  | .eq, a, b => req (a.shp = true ∧ b.shp = true) (ret (a.eqv b))
  | .ne, a, b => req (a.shp = true ∧ b.shp = true) (ret (!a.eqv b))
  | .lt, .int i, .int j => ret (decide (i < j))
  | .le, .int i, .int j => ret (decide (i ≤ j))
  | .gt, .int i, .int j => ret (decide (j < i))
  | .ge, .int i, .int j => ret (decide (j ≤ i))
  | .is, .bl a, .bl b => ret (decide (a = b))
  | .nis, .bl a, .bl b => ret (!decide (a = b))
  | .is, .non, .non => ret true
  | .is, _, .non => ret false
  | .nis, .non, .non => ret false
  | .nis, _, .non => ret true
  | .isin, a, .tup xs => req (a.flat = true ∧ xs.all PV.flat = true) (ret (xs.any fun x => x.eqv a))
  | .isin, a, .lst xs => req (a.flat = true ∧ xs.all PV.flat = true) (ret (xs.any fun x => x.eqv a))
  | .isin, a, .dct kvs => bind (keyM a) fun k => ret (dg kvs k).isSome
  | .nin, a, .dct kvs => bind (keyM a) fun k => ret (!(dg kvs k).isSome)
  | .nin, a, .tup xs => req (a.flat = true ∧ xs.all PV.flat = true) (ret (!xs.any fun x => x.eqv a))
  | .nin, a, .lst xs => req (a.flat = true ∧ xs.all PV.flat = true) (ret (!xs.any fun x => x.eqv a))
  | _, _, _ => bad
def ofO {α : Type} : Option α → M α
  | some a => ret a
  | none => bad
def idxM : PV → PV → M PV
  | .tup xs, .int i => ofO (atI xs i)
  | .lst xs, .int i => ofO (atI xs i)
  | .dct kvs, .int i => ofO (dg kvs (.inl i))
  | .dct kvs, .str i => ofO (dg kvs (.inr i))
  | _, _ => bad
noncomputable def lenM : List PV → M PV
  | [.tup xs] => ret (.int xs.length)
  | [.lst xs] => ret (.int xs.length)
  | [.str s] => req (s.length ≤ sizeLine) (ret (.int s.length))
  | [.dct xs] => ret (.int xs.length)
  | [.scr ns] => ret (.int ns.length)
  | _ => bad
def intsM : List PV → M (List Int)
  | [.lst xs] => ofO (intsOf xs)
  | _ => bad
def sumM : List PV → M (List Int)
  | [.lst xs] => ofO (intsOf xs)
  | [.tup xs] => ofO (intsOf xs)
  | _ => bad
def boolsM : List PV → M (List Bool)
  | [.lst xs] => ofO (boolsOf xs)
  | _ => bad
def maxL : List Int → Int
  | [] => 0
  | [x] => x
  | x :: y :: r => max x (maxL (y :: r))
def minL : List Int → Int
  | [] => 0
  | [x] => x
  | x :: y :: r => min x (minL (y :: r))
theorem maxL_spec : ∀ {ns : List Int}, 0 < ns.length → maxL ns ∈ ns ∧ ∀ y, y ∈ ns → y ≤ maxL ns
  | [x], _ => ⟨by simp [maxL], by simp [maxL]⟩
  | x :: y :: r, _ => by
    obtain ⟨h1, h2⟩ := maxL_spec (ns := y :: r) (by simp)
    simp only [maxL]
    refine ⟨?_, fun z hz => ?_⟩
    · rcases Int.le_total x (maxL (y :: r)) with h | h
      · rw [Int.max_eq_right h]
        exact List.mem_cons_of_mem _ h1
      · rw [Int.max_eq_left h]
        exact List.mem_cons_self
    · rcases List.mem_cons.mp hz with rfl | hz
      · omega
      · have := h2 z hz
        omega
theorem minL_spec : ∀ {ns : List Int}, 0 < ns.length → minL ns ∈ ns ∧ ∀ y, y ∈ ns → minL ns ≤ y
  | [x], _ => ⟨by simp [minL], by simp [minL]⟩
  | x :: y :: r, _ => by
    obtain ⟨h1, h2⟩ := minL_spec (ns := y :: r) (by simp)
    simp only [minL]
    refine ⟨?_, fun z hz => ?_⟩
    · rcases Int.le_total x (minL (y :: r)) with h | h
      · rw [Int.min_eq_left h]
        exact List.mem_cons_self
      · rw [Int.min_eq_right h]
        exact List.mem_cons_of_mem _ h1
    · rcases List.mem_cons.mp hz with rfl | hz
      · omega
      · have := h2 z hz
        omega
noncomputable def maxM : List PV → M PV
  | [.int i, .int j] => ret (.int (max i j))
  | as => bind (sumM as) fun ns => req (0 < ns.length) (ret (.int (maxL ns)))
noncomputable def minM : List PV → M PV
  | [.int i, .int j] => ret (.int (min i j))
  | as => bind (sumM as) fun ns => req (0 < ns.length) (ret (.int (minL ns)))
def absM : List PV → M PV
  | [.int i] => ret (.int (i.natAbs : Int))
  | _ => bad
def intM : List PV → M PV
  | [.int i] => ret (.int i)
  | [.bl b] => ret (.int (if b then 1 else 0))
  | _ => bad
def tupM : List PV → M PV
  | [.lst xs] => ret (.tup xs)
  | [.tup xs] => ret (.tup xs)
  | _ => bad
def listM : List PV → M PV
  | [.lst xs] => ret (.lst xs)
  | [.tup xs] => ret (.lst xs)
  | [.dct kvs] => ret (.lst (kvs.map fun z => keyP z.1))
  | _ => bad
def dictM : List PV → M PV
  | [.dct kvs] => ret (.dct kvs)
  | [.lst xs] => bind (ofO (prsOf xs)) fun kvs => ret (.dct (mergeP [] kvs))
  | _ => bad
noncomputable def reprM : List PV → M PV
  | [p] => req (p.plain = true ∧ p.data.showable = true ∧ p.data.depth ≤ 60 ∧ p.data.shown.length ≤ sizeLine) (ret (.str p.data.shown))
  | _ => bad
noncomputable def strM : List PV → M PV
  | [.int i] => req (i.natAbs.log2 < 1920) (ret (.str (toString i)))
  | _ => bad
def isort (ns : List Int) : List Int := ns.mergeSort fun a b => decide (a ≤ b)
def leB (p q : Int × Int) : Bool := decide (p.1 < q.1 ∨ p.1 = q.1 ∧ p.2 ≤ q.2)
def psort (ps : List (Int × Int)) : List (Int × Int) := ps.mergeSort leB
def srtM (xs : List PV) : M PV := match intsOf xs with
  | some ns => ret (.lst ((isort ns).map .int))
  | none => bind (ofO (pairsOf xs)) fun ps => ret (.lst ((psort ps).map prV))
noncomputable def sortM : List PV → M PV
  | [.dct kvs] => bind (ofO (keysI kvs)) fun ns => req (ns.length < 64) (ret (.lst ((isort ns).map .int)))
  | as => bind (ofO (sq1 as)) srtM
noncomputable def bltM : Blt → List PV → M PV
  | .len, as => lenM as
  | .sum, as => bind (sumM as) fun ns => ret (.int ns.sum)
  | .max, as => maxM as
  | .min, as => minM as
  | .abs, as => absM as
  | .int, as => intM as
  | .str, as => strM as
  | .tuple, as => tupM as
  | .list, as => listM as
  | .all, as => bind (boolsM as) fun bs => ret (.bl (bs.all id))
  | .any, as => bind (boolsM as) fun bs => ret (.bl (bs.any id))
  | .sorted, as => sortM as
  | .repr, as => reprM as
  | .dict, as => dictM as
noncomputable def lixM (xs : List PV) (q : PV) : M PV := req (q.flat = true ∧ xs.all PV.flat = true) (bind (ofO (xs.findIdx? fun x => x.eqv q)) fun j => ret (.int (j : Nat)))
noncomputable def cntM (xs : List PV) (q : PV) : M PV := req (q.flat = true ∧ xs.all PV.flat = true) (ret (.int (xs.countP fun x => x.eqv q : Nat)))
def exM : Option Slot → M Nat
  | some (.ex k) => ret k
  | _ => bad
def thM (m : M PV) : Option Slot → M PV
  | some .th => m
  | _ => bad
def lstM : PV → M (List PV)
  | .lst xs => ret xs
  | _ => bad
def itemsM : PV → M (List PV)
  | .tup xs => ret xs
  | .lst xs => ret xs
  | .dct kvs => ret (kvs.map fun z => keyP z.1)
  | _ => bad
noncomputable def itemsLM (p : PV) : M (List PV) := req (p.isTy .dict = false) (itemsM p)
def slcM : PV → Option Int → Option Int → M PV
  | .tup xs, lo, hi => ret (.tup (cutA xs lo hi))
  | .lst xs, lo, hi => ret (.lst (cutA xs lo hi))
  | .scr ns, lo, hi => ret (.lst ((cutA ns lo hi).map .int))
  | _, _, _ => bad
def partM : List PV → M (Option Int)
  | [] => ret none
  | [.int i] => ret (some i)
  | _ => bad
def ownM : Option Slot → M PV
  | some (.ol xs) => ret (.lst xs)
  | some (.od kvs) => ret (.dct kvs)
  | _ => bad
def varM : Option Slot → M PV
  | some (.fz p) => ret p
  | _ => bad
def asOwnM : Bool → PV → M Slot
  | true, .lst xs => ret (.ol xs)
  | true, .dct xs => ret (.od xs)
  | true, _ => bad
  | false, p => ret (.fz p)
def negM : PV → M PV
  | .int i => ret (.int (-i))
  | _ => bad
def blM : PV → M Bool
  | .bl k => ret k
  | _ => bad
def fnM : PV → M Nat
  | .fn k => ret k
  | _ => bad
noncomputable def rng1M : PV → M (List PV)
  | .int j => req (smallI j) (ret (rngL 0 j.toNat))
  | _ => bad
noncomputable def rng2M : PV → PV → M (List PV)
  | .int i, .int j => req (smallI i ∧ smallI j) (ret (rngL i (j - i).toNat))
  | _, _ => bad
noncomputable def rng3M : PV → PV → PV → M (List PV)
  | .int i, .int j, .int c => req (c ≠ 0 ∧ -1000 ≤ c ∧ c ≤ 1000 ∧ -(2 ^ 30) ≤ i ∧ i < 2 ^ 30 ∧ -(2 ^ 30) ≤ j ∧ j < 2 ^ 30) (ret (rngC i c (cntC i j c)))
  | _, _, _ => bad
noncomputable def trgM (m : Bool) : PV → PV → M PV
  | .int i, .int j => req (smallI i ∧ smallI j ∧ (j - i).toNat ≤ 16777216) (ret (trgV m (rngL i (j - i).toNat)))
  | _, _ => bad
noncomputable def popM (ys : List PV) : PV → M (PV × List PV)
  | .int k => req (smallI k) (bind (ofO (ixN ys.length k)) fun m => bind (ofO ys[m]?) fun y => ret (y, ys.eraseIdx m))
  | _ => bad
def lastM (ys : List PV) : M (PV × List PV) := bind (ofO ys[ys.length - 1]?) fun y => ret (y, ys.dropLast)
def revM : PV → M PV
  | .lst xs => ret (.lst xs.reverse)
  | .tup xs => ret (.tup xs.reverse)
  | _ => bad
def zipM : PV → PV → M (List PV)
  | .lst xs, .lst ys => ret (zipL xs ys)
  | .tup xs, .tup ys => ret (zipL xs ys)
  | .lst xs, .tup ys => ret (zipL xs ys)
  | .tup xs, .lst ys => ret (zipL xs ys)
  | _, _ => bad
structure TgM where
  one : PV → Env' → M Env'
  many : List PV → Env' → M Env'
def tgM : Tg → TgM
  | .nm i => ⟨fun p ρ => ret (ρ.set i (.fz p)), fun _ _ => bad⟩
  | .tp ts => ⟨fun p ρ => match p with
      | .tup xs => (tgM ts).many xs ρ
      | _ => bad, fun _ _ => bad⟩
  | .nil => ⟨fun _ _ => bad, fun xs ρ => match xs with
      | [] => ret ρ
      | _ => bad⟩
  | .cons a b => ⟨fun _ _ => bad, fun xs ρ => match xs with
      | x :: r => bind ((tgM a).one x ρ) fun ρ' => (tgM b).many r ρ'
      | [] => bad⟩
noncomputable def dcoM (one : PV → Env' → M Env') (cnd : Env' → M Bool) (ky vl : Env' → M PV) (ρ : Env') : List PV → List (Key × PV) → M (List (Key × PV))
  | [], acc => ret acc
  | x :: xs, acc => bind (one x ρ) fun ρ' => bind (cnd ρ') fun b => if b = true then bind (ky ρ') fun y => bind (keyM y) fun k => bind (vl ρ') fun z => req (acc.length < sizeLine) (dcoM one cnd ky vl ρ xs (dp acc k z)) else dcoM one cnd ky vl ρ xs acc
noncomputable def compM (one : PV → Env' → M Env') (cnd : Env' → M Bool) (elt : Env' → M PV) (ρ : Env') : List PV → List PV → M (List PV)
  | [], acc => ret acc
  | x :: xs, acc => bind (one x ρ) fun ρ' => bind (cnd ρ') fun b => if b = true then bind (elt ρ') fun y => req (acc.length < sizeLine) (compM one cnd elt ρ xs (acc ++ [y])) else compM one cnd elt ρ xs acc

section
variable {Q : PV → Prop} {E : Exn → Prop}
theorem truthM_ok {p : PV} {R : Bool → Prop} (h : (truthM p).wp R E) : truthW p R := by
  cases p <;> first | exact h | exact h.elim | exact wp_req.mp h
theorem binM_ok {op : Bop} {a b : PV} (h : (binM op a b).wp Q E) : binW op a b Q := by
  cases op <;> cases a <;> cases b <;> first | exact h | exact h.elim | exact wp_req.mp h | (have h := wp_req.mp h; first | exact ⟨h.1.1, h.1.2, h.2⟩ | exact ⟨h.1.1, h.1.2.1, h.1.2.2, h.2⟩)
theorem keyM_ok {p : PV} {R : Key → Prop} (h : (keyM p).wp R E) : keyW p R := by
  cases p <;> first | exact h | exact h.elim
theorem dctM_ok {p : PV} {R : List (Key × PV) → Prop} (h : (dctM p).wp R E) : dctW p R := by
  cases p <;> first | exact h | exact h.elim
theorem olM_ok {s : Option Slot} {R : List PV → Prop} (h : (olM s).wp R E) : ownW s fun p => itemsLW p R := by
  rcases s with _ | s
  · exact h.elim
  · cases s <;> first | exact h | exact h.elim
theorem odM_ok {s : Option Slot} {R : List (Key × PV) → Prop} (h : (odM s).wp R E) : odW s R := by
  rcases s with _ | s
  · exact h.elim
  · cases s <;> first | exact h | exact h.elim
theorem cmpM_ok {op : Cop} {a b : PV} {R : Bool → Prop} (h : (cmpM op a b).wp R E) : cmpW op a b R := by
  cases op <;> first | (have h := wp_req.mp h; exact ⟨h.1.1, h.1.2, h.2⟩) | (cases a <;> cases b <;> first | exact h | exact h.elim | (have h := wp_req.mp h; exact ⟨h.1.1, h.1.2, h.2⟩) | (rw [show cmpM _ _ _ = bind _ _ from rfl, wp_bind] at h; exact keyM_ok h))
theorem ofO_ok {α : Type} {o : Option α} {R : α → Prop} (h : (ofO o).wp R E) : onSome o R := by
  cases o <;> exact h
theorem idxM_ok {a b : PV} (h : (idxM a b).wp Q E) : idxW a b Q := by
  cases a <;> cases b <;> first | exact h.elim | skip
  all_goals
    simp only [idxM, idxW] at h ⊢
    have h := ofO_ok h
    unfold onSome at h
    split at h <;> first | (rename_i e; rw [e]; exact h) | exact h.elim
theorem lenM_ok {as : List PV} (h : (lenM as).wp Q E) : lenW as Q := by
  unfold lenM at h
  split at h <;> first | exact h | exact h.elim | exact wp_req.mp h
theorem intsM_ok {as : List PV} {R : List Int → Prop} (h : (intsM as).wp R E) : intsW as R := by
  unfold intsM at h
  split at h <;> first | exact ofO_ok h | exact h.elim
theorem sumM_ok {as : List PV} {R : List Int → Prop} (h : (sumM as).wp R E) : sumW as R := by
  unfold sumM at h
  split at h <;> first | exact ofO_ok h | exact h.elim
theorem boolsM_ok {as : List PV} {R : List Bool → Prop} (h : (boolsM as).wp R E) : boolsW as R := by
  unfold boolsM at h
  split at h <;> first | exact ofO_ok h | exact h.elim
theorem maxM_ok {as : List PV} (h : (maxM as).wp Q E) : maxW as Q := by
  have gen : ∀ as : List PV, (bind (sumM as) fun ns => req (0 < ns.length) (ret (PV.int (maxL ns)))).wp Q E → sumW as fun ns => 0 < ns.length ∧ ∀ m, m ∈ ns → (∀ y, y ∈ ns → y ≤ m) → Q (.int m) := fun as h => by
    rw [wp_bind] at h
    refine sumW_mono (fun ns hn => ⟨(wp_req.mp hn).1, fun m h1 h2 => ?_⟩) (sumM_ok h)
    have hn := wp_req.mp hn
    obtain ⟨a, b⟩ := maxL_spec hn.1
    have e : m = maxL ns := Int.le_antisymm (b m h1) (h2 _ a)
    rw [e]
    exact hn.2
  unfold maxM at h
  unfold maxW
  split at h
  · rename_i i j
    show Q _
    have h : Q (.int (max i j)) := h
    have e : (if j > i then j else i) = max i j := by split <;> omega
    rw [e]
    exact h
  · first
    | exact gen _ h
    | (split
       · simp_all
       · exact gen _ h)
theorem minM_ok {as : List PV} (h : (minM as).wp Q E) : minW as Q := by
  have gen : ∀ as : List PV, (bind (sumM as) fun ns => req (0 < ns.length) (ret (PV.int (minL ns)))).wp Q E → sumW as fun ns => 0 < ns.length ∧ ∀ m, m ∈ ns → (∀ y, y ∈ ns → m ≤ y) → Q (.int m) := fun as h => by
    rw [wp_bind] at h
    refine sumW_mono (fun ns hn => ⟨(wp_req.mp hn).1, fun m h1 h2 => ?_⟩) (sumM_ok h)
    have hn := wp_req.mp hn
    obtain ⟨a, b⟩ := minL_spec hn.1
    have e : m = minL ns := Int.le_antisymm (h2 _ a) (b m h1)
    rw [e]
    exact hn.2
  unfold minM at h
  unfold minW
  split at h
  · rename_i i j
    show Q _
    have h : Q (.int (min i j)) := h
    have e : (if j < i then j else i) = min i j := by split <;> omega
    rw [e]
    exact h
  · first
    | exact gen _ h
    | (split
       · simp_all
       · exact gen _ h)
theorem isort_perm (ns : List Int) : (isort ns).Perm ns := List.mergeSort_perm _ _
theorem isort_pw (ns : List Int) : (isort ns).Pairwise (· ≤ ·) := by
  have h := List.pairwise_mergeSort (le := fun a b : Int => decide (a ≤ b)) (fun a b c h1 h2 => by simp at *; omega) (fun a b => by simp; omega) ns
  exact h.imp fun {a b} h => by simpa using h
theorem psort_perm (ps : List (Int × Int)) : (psort ps).Perm ps := List.mergeSort_perm _ _
theorem psort_pw (ps : List (Int × Int)) : (psort ps).Pairwise leQ := by
  have h := List.pairwise_mergeSort (le := leB) (fun a b c h1 h2 => by simp [leB] at *; omega) (fun a b => by simp [leB]; omega) ps
  exact h.imp fun h => by simpa [leB, leQ] using h
theorem psort_uniq {ns ms : List (Int × Int)} (h1 : ms.Perm ns) (h2 : ms.Pairwise leQ) : ms = psort ns :=
  List.Perm.eq_of_pairwise (le := leQ) (fun a b _ _ h1 h2 => by
    unfold leQ at h1 h2
    have : a.1 = b.1 := by omega
    have : a.2 = b.2 := by omega
    exact Prod.ext (by omega) (by omega)) h2 (psort_pw ns) (h1.trans (psort_perm ns).symm)
theorem isort_uniq {ns ms : List Int} (h1 : ms.Perm ns) (h2 : ms.Pairwise (· ≤ ·)) : ms = isort ns :=
  List.Perm.eq_of_pairwise (le := (· ≤ ·)) (fun a b _ _ h1 h2 => Int.le_antisymm h1 h2) h2 (isort_pw ns) (h1.trans (isort_perm ns).symm)
theorem absM_ok {as : List PV} (h : (absM as).wp Q E) : absW as Q := by
  unfold absM at h
  split at h
  · rename_i i
    have e : (if i < 0 then -i else i) = (i.natAbs : Int) := by split <;> omega
    show Q (.int (if i < 0 then -i else i))
    rw [e]
    exact h
  · exact h.elim
theorem bltM_ok {f : Blt} {as : List PV} (h : (bltM f as).wp Q E) : bltW f as Q := by
  cases f with
  | len => exact lenM_ok h
  | max => exact maxM_ok h
  | min => exact minM_ok h
  | sum =>
    have h : (bind (sumM as) _).wp Q E := h
    rw [wp_bind] at h
    exact sumM_ok h
  | all =>
    have h : (bind (boolsM as) _).wp Q E := h
    rw [wp_bind] at h
    exact boolsM_ok h
  | any =>
    have h : (bind (boolsM as) _).wp Q E := h
    rw [wp_bind] at h
    exact boolsM_ok h
  | sorted =>
    have h : (sortM as).wp Q E := h
    show sortW as Q
    unfold sortM at h
    unfold sortW
    split at h
    · rw [wp_bind] at h
      exact onSome_mono (fun ns h => by
        have h := wp_req.mp h
        refine ⟨h.1, fun ns' h1 h2 => ?_⟩
        rw [isort_uniq h1 h2]
        exact h.2) (ofO_ok h)
    rename_i hno
    have gen : onSome (sq1 as) fun xs => srtW xs Q := by
      rw [wp_bind] at h
      refine onSome_mono (fun xs h => ?_) (ofO_ok h)
      unfold srtM at h
      unfold srtW
      split at h
      · rename_i ns e
        try rw [e]
        intro ns' h1 h2
        rw [isort_uniq h1 h2]
        exact h
      · rename_i e
        try rw [e]
        rw [wp_bind] at h
        refine onSome_mono (fun ps h qs h1 h2 => ?_) (ofO_ok h)
        rw [psort_uniq h1 h2]
        exact h
    first
    | exact gen
    | (split
       · exact absurd rfl (hno _)
       · exact gen)
  | abs =>
    exact absM_ok h
  | int =>
    have h : (intM as).wp Q E := h
    unfold intM at h
    split at h <;> first | exact h | exact h.elim
  | str =>
    have h : (strM as).wp Q E := h
    unfold strM at h
    split at h <;> first | exact wp_req.mp h | exact h.elim
  | tuple =>
    have h : (tupM as).wp Q E := h
    unfold tupM at h
    split at h <;> first | exact h | exact h.elim
  | list =>
    have h : (listM as).wp Q E := h
    unfold listM at h
    split at h <;> first | exact h | exact h.elim
  | dict =>
    have h : (dictM as).wp Q E := h
    unfold dictM at h
    split at h <;> first | exact h | exact h.elim | (rw [wp_bind] at h; exact ofO_ok h)
  | repr =>
    have h : (reprM as).wp Q E := h
    unfold reprM at h
    split at h <;> first | (have h := wp_req.mp h; exact ⟨h.1.1, h.1.2.1, h.1.2.2.1, h.1.2.2.2, h.2⟩) | exact h.elim
theorem lixM_ok {xs : List PV} {q : PV} (h : (lixM xs q).wp Q E) : lixW xs q Q := by
  have h := wp_req.mp h
  have h1 := h.2
  rw [wp_bind] at h1
  exact ⟨h.1.1, h.1.2, ofO_ok h1⟩
theorem cntM_ok {xs : List PV} {q : PV} (h : (cntM xs q).wp Q E) : cntW xs q Q := by
  have h := wp_req.mp h
  exact ⟨h.1.1, h.1.2, h.2⟩
theorem exM_ok {s : Option Slot} {P : Nat → Prop} (h : (exM s).wp P E) : exW s P := by
  rcases s with _ | s
  · exact h.elim
  · cases s <;> first | exact h | exact h.elim
theorem thM_ok {m : M PV} {s : Option Slot} (h : (thM m s).wp Q E) : thW s (m.wp Q E) := by
  rcases s with _ | s
  · exact h.elim
  · cases s <;> first | exact h | exact h.elim
theorem lstM_ok {p : PV} {R : List PV → Prop} (h : (lstM p).wp R E) : lstW p R := by
  cases p <;> first | exact h | exact h.elim
theorem itemsM_ok {p : PV} {R : List PV → Prop} (h : (itemsM p).wp R E) : itemsW p R := by
  cases p <;> first | exact h | exact h.elim
theorem itemsLM_ok {p : PV} {R : List PV → Prop} (h : (itemsLM p).wp R E) : itemsLW p R := by
  have h := wp_req.mp h
  cases p <;> first | exact h.2 | exact h.2.elim | (cases h.1; done)
theorem slcM_ok {p : PV} {lo hi : Option Int} (h : (slcM p lo hi).wp Q E) : slcW p lo hi Q := by
  cases p <;> first | exact h | exact h.elim
theorem partM_ok {xs : List PV} {R : Option Int → Prop} (h : (partM xs).wp R E) : partW xs R := by
  unfold partM at h
  split at h <;> first | exact h | exact h.elim
theorem ownM_ok {s : Option Slot} (h : (ownM s).wp Q E) : ownW s Q := by
  rcases s with _ | s
  · exact h.elim
  · cases s <;> first | exact h | exact h.elim
theorem varM_ok {s : Option Slot} (h : (varM s).wp Q E) : varW s Q := by
  rcases s with _ | s
  · exact h.elim
  · cases s <;> first | exact h | exact h.elim
theorem asOwnM_ok {b : Bool} {p : PV} {R : Slot → Prop} (h : (asOwnM b p).wp R E) : asOwn b p R := by
  cases b <;> cases p <;> first | exact h | exact h.elim
theorem negM_ok {p : PV} (h : (negM p).wp Q E) : negW p Q := by
  cases p <;> first | exact h | exact h.elim
theorem blM_ok {p : PV} {R : Bool → Prop} (h : (blM p).wp R E) : blW p R := by
  cases p <;> first | exact h | exact h.elim
theorem fnM_ok {p : PV} {R : Nat → Prop} (h : (fnM p).wp R E) : fnW p R := by
  cases p <;> first | exact h | exact h.elim
theorem rng1M_ok {p : PV} {R : List PV → Prop} (h : (rng1M p).wp R E) : rng1W p R := by
  cases p <;> first | exact wp_req.mp h | exact h.elim
theorem rng2M_ok {p q : PV} {R : List PV → Prop} (h : (rng2M p q).wp R E) : rng2W p q R := by
  cases p <;> cases q <;> first | (have h := wp_req.mp h; exact ⟨h.1.1, h.1.2, h.2⟩) | exact h.elim
theorem rng3M_ok {p q r : PV} {R : List PV → Prop} (h : (rng3M p q r).wp R E) : rng3W p q r R := by
  cases p <;> cases q <;> cases r <;> first | exact wp_req.mp h | exact h.elim
theorem trgM_ok {m : Bool} {p q : PV} {R : PV → Prop} (h : (trgM m p q).wp R E) : trgW m p q R := by
  cases p <;> cases q <;> first | exact wp_req.mp h | exact h.elim
theorem popM_ok {ys : List PV} {p : PV} {R : PV → List PV → Prop} (h : (popM ys p).wp (fun z => R z.1 z.2) E) : popW ys p R := by
  cases p <;> first | exact h.elim | skip
  rename_i k
  obtain ⟨hk, h⟩ := wp_req.mp h
  cases e : ixN ys.length k with
  | none =>
    rw [e] at h
    exact h.elim
  | some m =>
    rw [e] at h
    cases e2 : ys[m]? with
    | none =>
      have h : (bind (ofO ys[m]?) fun y => ret (y, ys.eraseIdx m)).wp (fun z : PV × List PV => R z.1 z.2) E := h
      rw [e2] at h
      exact h.elim
    | some y =>
      have h : (bind (ofO ys[m]?) fun y => ret (y, ys.eraseIdx m)).wp (fun z : PV × List PV => R z.1 z.2) E := h
      rw [e2] at h
      exact popW_of hk e e2 h
theorem lastM_ok {ys : List PV} {R : PV → List PV → Prop} (h : (lastM ys).wp (fun z => R z.1 z.2) E) : lastW ys R := by
  unfold lastM at h
  cases e : ys[ys.length - 1]? with
  | none =>
    rw [e] at h
    exact h.elim
  | some y =>
    rw [e] at h
    exact lastW_of e h
theorem revM_ok {p : PV} {Q : PV → Prop} (h : (revM p).wp Q E) : revW p Q := by
  cases p <;> first | exact h | exact h.elim
theorem zipM_ok {p q : PV} {R : List PV → Prop} (h : (zipM p q).wp R E) : zipW p q R := by
  cases p <;> cases q <;> first | exact h | exact h.elim
structure TgOk (t : Tg) : Prop where
  one : ∀ p ρ (R : Env' → Prop) E, ((tgM t).one p ρ).wp R E → (tgW t).one p ρ R
  many : ∀ p ρ (R : Env' → Prop) E, ((tgM t).many p ρ).wp R E → (tgW t).many p ρ R
theorem tgM_ok (t : Tg) : TgOk t := by
  induction t with
  | nm i => exact ⟨fun p ρ R E h => h, fun p ρ R E h => h.elim⟩
  | tp ts ih =>
    refine ⟨fun p ρ R E h => ?_, fun p ρ R E h => h.elim⟩
    cases p <;> first | exact ih.many _ _ _ _ h | exact h.elim
  | nil =>
    refine ⟨fun p ρ R E h => h.elim, fun p ρ R E h => ?_⟩
    cases p <;> first | exact h | exact h.elim
  | cons a b iha ihb =>
    refine ⟨fun p ρ R E h => h.elim, fun p ρ R E h => ?_⟩
    cases p with
    | nil => exact h.elim
    | cons x r =>
      have h : (bind ((tgM a).one x ρ) fun ρ' => (tgM b).many r ρ').wp R E := h
      rw [wp_bind] at h
      exact iha.one _ _ _ E (wp_mono (fun ρ' h => ihb.many _ _ _ E h) (fun _ h => h) _ h)
theorem compM_ok {one : PV → Env' → M Env'} {one' : PV → Env' → (Env' → Prop) → Prop} {cnd : Env' → M Bool} {cnd' : Env' → (Bool → Prop) → Prop} {elt : Env' → M PV} {elt' : Env' → (PV → Prop) → Prop} {ρ : Env'}
    (h1 : ∀ p ρ R E, (one p ρ).wp R E → one' p ρ R) (h2 : ∀ ρ R E, (cnd ρ).wp R E → cnd' ρ R) (h3 : ∀ ρ R E, (elt ρ).wp R E → elt' ρ R) : ∀ (xs acc : List PV) (R : List PV → Prop), (compM one cnd elt ρ xs acc).wp R E → compW one' cnd' elt' ρ xs acc R
  | [], acc, R, h => h
  | x :: xs, acc, R, h => by
    have h : (bind (one x ρ) fun ρ' => bind (cnd ρ') fun b => if b = true then bind (elt ρ') fun y => req (acc.length < sizeLine) (compM one cnd elt ρ xs (acc ++ [y])) else compM one cnd elt ρ xs acc).wp R E := h
    rw [wp_bind] at h
    refine h1 _ _ _ E (wp_mono (fun ρ' h => ?_) (fun _ h => h) _ h)
    rw [wp_bind] at h
    refine h2 _ _ E (wp_mono (fun b h => ?_) (fun _ h => h) _ h)
    cases b with
    | true =>
      simp only [if_true] at h ⊢
      rw [wp_bind] at h
      exact h3 _ _ E (wp_mono (fun y h => ⟨(wp_req.mp h).1, compM_ok h1 h2 h3 xs (acc ++ [y]) R (wp_req.mp h).2⟩) (fun _ h => h) _ h)
    | false =>
      exact compM_ok h1 h2 h3 xs acc R h
theorem dcoM_ok {one : PV → Env' → M Env'} {one' : PV → Env' → (Env' → Prop) → Prop} {cnd : Env' → M Bool} {cnd' : Env' → (Bool → Prop) → Prop} {ky vl : Env' → M PV} {ky' vl' : Env' → (PV → Prop) → Prop} {ρ : Env'}
    (h1 : ∀ p ρ R E, (one p ρ).wp R E → one' p ρ R) (h2 : ∀ ρ R E, (cnd ρ).wp R E → cnd' ρ R) (h3 : ∀ ρ R E, (ky ρ).wp R E → ky' ρ R) (h4 : ∀ ρ R E, (vl ρ).wp R E → vl' ρ R) : ∀ (xs : List PV) (acc : List (Key × PV)) (R : List (Key × PV) → Prop), (dcoM one cnd ky vl ρ xs acc).wp R E → dcoW one' cnd' ky' vl' ρ xs acc R
  | [], acc, R, h => h
  | x :: xs, acc, R, h => by
    have h : (bind (one x ρ) fun ρ' => bind (cnd ρ') fun b => if b = true then bind (ky ρ') fun y => bind (keyM y) fun k => bind (vl ρ') fun z => req (acc.length < sizeLine) (dcoM one cnd ky vl ρ xs (dp acc k z)) else dcoM one cnd ky vl ρ xs acc).wp R E := h
    rw [wp_bind] at h
    refine h1 _ _ _ E (wp_mono (fun ρ' h => ?_) (fun _ h => h) _ h)
    rw [wp_bind] at h
    refine h2 _ _ E (wp_mono (fun b h => ?_) (fun _ h => h) _ h)
    cases b with
    | true =>
      simp only [if_true] at h ⊢
      rw [wp_bind] at h
      refine h3 _ _ E (wp_mono (fun y h => ?_) (fun _ h => h) _ h)
      rw [wp_bind] at h
      refine keyM_ok (E := E) (wp_mono (fun k h => ?_) (fun _ h => h) _ h)
      rw [wp_bind] at h
      exact h4 _ _ E (wp_mono (fun z h => ⟨(wp_req.mp h).1, dcoM_ok h1 h2 h3 h4 xs _ R (wp_req.mp h).2⟩) (fun _ h => h) _ h)
    | false =>
      exact dcoM_ok h1 h2 h3 h4 xs acc R h
end
end Rk

set_option maxHeartbeats 4000000
namespace Rk
open PySem PySem.Spec PyProof.Rows L2 M

structure DM where
  e : Env' → M PV
  o : Env' → M PV
  t : Env' → M Bool
  s : Bool → Env' → M Slot
  a : Env' → M (List PV)
  b : Env' → M (List PV)
  i : Env' → M (List PV)
  f : Env' → M (List PV)
def slotE (e : Env' → M PV) : Bool → Env' → M Slot
  | true, _ => bad
  | false, ρ => bind (e ρ) fun p => ret (.fz p)
noncomputable def DM.ofE (e : Env' → M PV) : DM where
  e := e
  o := e
  t := fun ρ => bind (e ρ) truthM
  s := slotE e
  a := fun _ => bad
  b := fun _ => bad
  i := fun ρ => bind (e ρ) itemsM
  f := fun ρ => bind (e ρ) itemsM
noncomputable def DM.ofN (e : Env' → M PV) : DM := { DM.ofE e with s := fun b ρ => bind (e ρ) (asOwnM b) }
noncomputable def DM.ofT (t : Env' → M Bool) (e : Env' → M PV) : DM := { DM.ofE e with t := t }
noncomputable def DM.ofA (a b : Env' → M (List PV)) : DM := { DM.ofE (fun _ => bad) with a := a, b := b }
noncomputable def DM.ofI (i f : Env' → M (List PV)) : DM := { DM.ofE (fun _ => bad) with i := i, f := f }

/-- a def's meaning -/
structure MF where
  ar : Nat
  f : List PV → M PV
  len : ∀ as Q E, (f as).wp Q E → as.length = ar
def MF.spec (F : MF) : FSpec where
  ar := F.ar
  run := fun as Q E => (F.f as).wp Q E
  len := F.len
  mono := fun as Q Q' E E' hq he h => wp_mono hq he _ h
/-- what a def makes of what it is handed to call -/
structure MW where
  f : M PV → M PV
def MW.spec (F : MW) : WSpec where
  run := fun t Q => ∃ m : M PV, (∀ Q E, m.wp Q E → t Q E) ∧ (F.f m).wp Q fun _ => False
  mono := fun t Q Q' hq ⟨m, h1, h2⟩ => ⟨m, h1, wp_mono hq (fun _ z => z) _ h2⟩
structure MSig where
  F : Nat → MF
  cn : Nat → PV
  wd : Nat → MW
  sb : Nat → Nat → Bool
  tk : M PV
def MSig.sig (S : MSig) : Sig := ⟨fun k => (S.F k).spec, S.cn, fun k => (S.wd k).spec, S.sb, fun Q E => S.tk.wp Q E⟩
def MSig.tkd (S : MSig) (m : M PV) : MSig := ⟨S.F, S.cn, S.wd, S.sb, m⟩

noncomputable def ev (S : MSig) : Ex → DM
  | .var i => .ofE fun ρ => varM ρ[i]?
  | .own i => { e := fun _ => bad, o := fun ρ => ownM ρ[i]?, t := fun ρ => bind (ownM ρ[i]?) truthM, s := fun _ _ => bad, a := fun _ => bad, b := fun _ => bad, i := fun ρ => olM ρ[i]?, f := fun _ => bad }
  | .non => .ofE fun _ => ret .non
  | .tt b => .ofE fun _ => ret (.bl b)
  | .int i => .ofE fun _ => ret (.int i)
  | .str s => .ofE fun _ => ret (.str s)
  | .con c => .ofE fun _ => ret (S.cn c)
  | .fnv k => .ofE fun _ => ret (.fn k)
  | .neg a => .ofE fun ρ => bind ((ev S a).e ρ) negM
  | .not a => .ofT (fun ρ => bind ((ev S a).t ρ) fun b => ret (!b)) fun ρ => bind ((ev S a).o ρ) fun p => bind (truthM p) fun b => ret (.bl (!b))
  | .bin op a b => .ofN fun ρ => bind ((ev S a).o ρ) fun p => bind ((ev S b).o ρ) fun q => binM op p q
  | .cmp op a b => .ofT (fun ρ => bind ((ev S a).o ρ) fun p => bind ((ev S b).o ρ) fun q => cmpM op p q) fun ρ => bind ((ev S a).o ρ) fun p => bind ((ev S b).o ρ) fun q => bind (cmpM op p q) fun c => ret (.bl c)
  | .cmp2 o1 o2 a b c =>
    let t := fun ρ => bind ((ev S a).o ρ) fun p => bind ((ev S b).o ρ) fun q => bind (cmpM o1 p q) fun k => if k = true then bind ((ev S c).o ρ) fun r => cmpM o2 q r else ret false
    .ofT t fun ρ => bind (t ρ) fun k => ret (.bl k)
  | .and a b => .ofT (fun ρ => bind ((ev S a).t ρ) fun k => if k = true then (ev S b).t ρ else ret false) fun ρ => bind ((ev S a).e ρ) fun p => bind (blM p) fun k => if k = true then (ev S b).e ρ else ret (.bl false)
  | .or a b => .ofT (fun ρ => bind ((ev S a).t ρ) fun k => if k = true then ret true else (ev S b).t ρ) fun ρ => bind ((ev S a).e ρ) fun p => bind (blM p) fun k => if k = true then ret (.bl true) else (ev S b).e ρ
  | .one a => .ofT (fun ρ => (ev S a).t ρ) (ev S a).e
  | .ite c a b => { DM.ofE (fun ρ => bind ((ev S c).t ρ) fun k => if k = true then (ev S a).e ρ else (ev S b).e ρ) with t := fun _ => bad }
  | .call k as => .ofE fun ρ => bind ((ev S as).a ρ) (S.F k).f
  | .callv i m as => .ofE fun ρ => bind (varM ρ[i]?) fun p => bind (fnM p) fun k => req (k < m) (bind ((ev S as).a ρ) fun ps => (S.F k).f ps)
  | .blt f as => .ofN fun ρ => bind ((ev S as).b ρ) (bltM f)
  | .isi a ts => .ofE fun ρ => bind ((ev S a).o ρ) fun p => req (p.known = true) (ret (.bl (ts.any p.isTy)))
  | .idx a b => .ofE fun ρ => bind ((ev S a).o ρ) fun p => bind ((ev S b).e ρ) fun q => idxM p q
  | .slc a lo hi => .ofN fun ρ => bind ((ev S a).o ρ) fun p => bind ((ev S lo).a ρ) fun l => bind (partM l) fun i => bind ((ev S hi).a ρ) fun h => bind (partM h) fun j => slcM p i j
  | .rev a => .ofN fun ρ => bind ((ev S a).o ρ) fun p => revM p
  | .tup as => .ofE fun ρ => bind ((ev S as).a ρ) fun ps => req (ps.length ≤ sizeLine) (ret (.tup ps))
  | .lst as => .ofN fun ρ => bind ((ev S as).a ρ) fun ps => req (ps.length ≤ sizeLine) (ret (.lst ps))
  | .comp tg src cnd elt own => .ofN fun ρ => bind ((ev S src).i ρ) fun items => bind (compM (tgM tg).one (fun ρ' => if cnd.isNil = true then ret true else nox ((ev S cnd).t ρ')) (fun ρ' => nox ((ev S elt).e ρ')) (wipeR ρ own) items []) fun ys => ret (.lst ys)
  | .rng1 a =>
    let i := fun ρ => bind ((ev S a).e ρ) rng1M
    .ofI i i
  | .rng2 a b =>
    let i := fun ρ => bind ((ev S a).e ρ) fun p => bind ((ev S b).e ρ) fun q => rng2M p q
    .ofI i i
  | .rng3 a b c =>
    let i := fun ρ => bind ((ev S a).e ρ) fun p => bind ((ev S b).e ρ) fun q => bind ((ev S c).e ρ) fun r => rng3M p q r
    .ofI i i
  | .trg m lo hi => .ofN fun ρ => if lo.isNil = true then bind ((ev S hi).e ρ) fun q => trgM m (.int 0) q else bind ((ev S lo).e ρ) fun p => bind ((ev S hi).e ρ) fun q => trgM m p q
  | .zip a b => .ofI (fun ρ => bind ((ev S a).o ρ) fun p => bind ((ev S b).o ρ) fun q => zipM p q) fun ρ => bind ((ev S a).e ρ) fun p => bind ((ev S b).e ρ) fun q => zipM p q
  | .enum a => .ofI (fun ρ => bind ((ev S a).o ρ) fun p => bind (itemsLM p) fun xs => ret (enumL 0 xs)) fun ρ => bind ((ev S a).e ρ) fun p => bind (itemsLM p) fun xs => ret (enumL 0 xs)
  | .lix a b => .ofE fun ρ => bind ((ev S a).o ρ) fun p => bind (lstM p) fun xs => bind ((ev S b).e ρ) fun q => lixM xs q
  | .cnt a b => .ofE fun ρ => bind ((ev S a).o ρ) fun p => bind (lstM p) fun xs => bind ((ev S b).e ρ) fun q => cntM xs q
  | .dnew => .ofN fun _ => ret (.dct [])
  | .dgt a k x => .ofE fun ρ => bind ((ev S a).o ρ) fun p => bind (dctM p) fun kvs => bind ((ev S k).e ρ) fun q => bind (keyM q) fun j => if x.isNil = true then ret ((dg kvs j).getD .non) else bind ((ev S x).e ρ) fun z => ret ((dg kvs j).getD z)
  | .dvw b a =>
    let i := fun ρ => bind ((ev S a).e ρ) fun p => bind (dctM p) fun kvs => ret (if b then kvs.map fun z => .tup [keyP z.1, z.2] else kvs.map (·.2))
    .ofI i i
  | .dco tg src cnd ky vl own => .ofN fun ρ => bind ((ev S src).i ρ) fun items => bind (dcoM (tgM tg).one (fun ρ' => if cnd.isNil = true then ret true else nox ((ev S cnd).t ρ')) (fun ρ' => nox ((ev S ky).e ρ')) (fun ρ' => nox ((ev S vl).e ρ')) (wipeR ρ own) items []) fun kvs => ret (.dct kvs)
  | .dd1 k v => .ofN fun ρ => bind ((ev S k).e ρ) fun q => bind (keyM q) fun j => bind ((ev S v).e ρ) fun z => ret (.dct [(j, z)])
  | .isx i c => .ofE fun ρ => bind (exM ρ[i]?) fun k => ret (.bl (isxB S.sb k c))
  | .lam k b => .ofE fun ρ => nox ((S.wd k).f ((ev S b).e ρ))
  | .thk i => .ofE fun ρ => thM S.tk ρ[i]?
  | .nil => .ofA (fun _ => ret []) fun _ => ret []
  | .cons a b => .ofA (fun ρ => bind ((ev S a).e ρ) fun p => bind ((ev S b).a ρ) fun ps => ret (p :: ps)) fun ρ => bind ((ev S a).o ρ) fun p => bind ((ev S b).b ρ) fun ps => ret (p :: ps)

theorem olM_ok2 {s : Option Slot} {R : List PV → Prop} {E : Exn → Prop} (h : (olM s).wp R E) : olW s R := by
  rcases s with _ | s
  · exact h.elim
  · cases s <;> first | exact h | exact h.elim
structure DOk (d : DM) (D : Den) : Prop where
  e : ∀ ρ Q E, (d.e ρ).wp Q E → D.e ρ Q E
  o : ∀ ρ Q E, (d.o ρ).wp Q E → D.o ρ Q E
  t : ∀ ρ Q E, (d.t ρ).wp Q E → D.t ρ Q E
  s : ∀ b ρ Q E, (d.s b ρ).wp Q E → D.s b ρ Q E
  a : ∀ ρ Q E, (d.a ρ).wp Q E → D.a ρ Q E
  b : ∀ ρ Q E, (d.b ρ).wp Q E → D.b ρ Q E
  i : ∀ ρ Q E, (d.i ρ).wp Q E → D.i ρ Q E
  f : ∀ ρ Q E, (d.f ρ).wp Q E → D.f ρ Q E
theorem wp_bindI {α β : Type} {m : M α} {k : α → M β} {Q : β → Prop} {E : Exn → Prop} {R : α → Prop} (h : (bind m k).wp Q E) (hk : ∀ a, (k a).wp Q E → R a) : m.wp R E := by
  rw [wp_bind] at h
  exact wp_mono hk (fun _ h => h) _ h
section
variable {e : Env' → M PV} {e' : ρE}
theorem ok_ofE (h : ∀ ρ Q E, (e ρ).wp Q E → e' ρ Q E) : DOk (DM.ofE e) (Den.ofE e') where
  e := h
  o := h
  t := fun ρ Q E q => h ρ _ E (wp_bindI q fun p z => truthM_ok z)
  s := fun b ρ Q E q => by
    cases b with
    | true => exact q.elim
    | false => exact h ρ _ E (wp_bindI q fun p z => z)
  a := fun ρ Q E q => q
  b := fun ρ Q E q => q
  i := fun ρ Q E q => h ρ _ E (wp_bindI q fun p z => itemsM_ok z)
  f := fun ρ Q E q => h ρ _ E (wp_bindI q fun p z => itemsM_ok z)
theorem ok_ofN (h : ∀ ρ Q E, (e ρ).wp Q E → e' ρ Q E) : DOk (DM.ofN e) (Den.ofN e') :=
  { ok_ofE h with s := fun b ρ Q E q => h ρ _ E (wp_bindI q fun p z => asOwnM_ok z) }
theorem ok_ofT {t : Env' → M Bool} {t' : Env' → (Bool → Prop) → (Exn → Prop) → Prop} (ht : ∀ ρ Q E, (t ρ).wp Q E → t' ρ Q E) (h : ∀ ρ Q E, (e ρ).wp Q E → e' ρ Q E) : DOk (DM.ofT t e) (Den.ofT t' e') :=
  { ok_ofE h with t := ht }
theorem ok_ofA {a b : Env' → M (List PV)} {a' b' : Env' → (List PV → Prop) → (Exn → Prop) → Prop} (ha : ∀ ρ Q E, (a ρ).wp Q E → a' ρ Q E) (hb : ∀ ρ Q E, (b ρ).wp Q E → b' ρ Q E) : DOk (DM.ofA a b) (Den.ofA a' b') :=
  { ok_ofE (e := fun _ => bad) (e' := fun _ _ _ => False) (fun _ _ _ h => h) with a := ha, b := hb }
theorem ok_ofI {a b : Env' → M (List PV)} {a' b' : Env' → (List PV → Prop) → (Exn → Prop) → Prop} (ha : ∀ ρ Q E, (a ρ).wp Q E → a' ρ Q E) (hb : ∀ ρ Q E, (b ρ).wp Q E → b' ρ Q E) : DOk (DM.ofI a b) (Den.ofI a' b') :=
  { ok_ofE (e := fun _ => bad) (e' := fun _ _ _ => False) (fun _ _ _ h => h) with i := ha, f := hb }
end

theorem ev_ok (S : MSig) (x : Ex) : DOk (ev S x) (den S.sig x) := by
  induction x with
  | var i => exact ok_ofE fun ρ Q E h => varM_ok h
  | own i =>
    exact { e := fun _ _ _ h => h, o := fun ρ Q E h => ownM_ok h, t := fun ρ Q E h => ownM_ok (E := E) (wp_bindI h fun p z => truthM_ok z), s := fun _ _ _ _ h => h, a := fun _ _ _ h => h, b := fun _ _ _ h => h,
            i := fun ρ Q E h => olM_ok (E := E) h, f := fun _ _ _ h => h }
  | non => exact ok_ofE fun _ _ _ h => h
  | tt b => exact ok_ofE fun _ _ _ h => h
  | int i => exact ok_ofE fun _ _ _ h => h
  | str s => exact ok_ofE fun _ _ _ h => h
  | con c => exact ok_ofE fun _ _ _ h => h
  | fnv k => exact ok_ofE fun _ _ _ h => h
  | neg a ih => exact ok_ofE fun ρ Q E h => ih.e _ _ _ (wp_bindI h fun p z => negM_ok z)
  | not a ih =>
    refine ok_ofT (fun ρ Q E h => ih.t _ _ _ (wp_bindI h fun p z => z)) fun ρ Q E h => ih.o _ _ _ (wp_bindI h fun p z => truthM_ok (E := E) (wp_bindI z fun b z => z))
  | bin op a b iha ihb => exact ok_ofN fun ρ Q E h => iha.o _ _ _ (wp_bindI h fun p h => ihb.o _ _ _ (wp_bindI h fun q h => binM_ok h))
  | cmp op a b iha ihb =>
    refine ok_ofT (fun ρ Q E h => iha.o _ _ _ (wp_bindI h fun p h => ihb.o _ _ _ (wp_bindI h fun q h => cmpM_ok h))) fun ρ Q E h => iha.o _ _ _ (wp_bindI h fun p h => ihb.o _ _ _ (wp_bindI h fun q h => cmpM_ok (E := E) (wp_bindI h fun c h => h)))
  | cmp2 o1 o2 a b c iha ihb ihc =>
    have ht : ∀ (ρ : Env') (Q : Bool → Prop) (E : Exn → Prop), (bind ((ev S a).o ρ) fun p => bind ((ev S b).o ρ) fun q => bind (cmpM o1 p q) fun k => if k = true then bind ((ev S c).o ρ) fun r => cmpM o2 q r else ret false).wp Q E →
        (den S.sig a).o ρ (fun p => (den S.sig b).o ρ (fun q => cmpW o1 p q fun k => if k then (den S.sig c).o ρ (fun r => cmpW o2 q r Q) E else Q false) E) E := fun ρ Q E h => by
      refine iha.o _ _ _ (wp_bindI h fun p h => ihb.o _ _ _ (wp_bindI h fun q h => cmpM_ok (E := E) (wp_bindI h fun k h => ?_)))
      cases k with
      | true => exact ihc.o _ _ _ (wp_bindI h fun r h => cmpM_ok h)
      | false => exact h
    exact ok_ofT ht fun ρ Q E h => ht ρ _ E (wp_bindI h fun k h => h)
  | and a b iha ihb =>
    refine ok_ofT (fun ρ Q E h => iha.t _ _ _ (wp_bindI h fun k h => ?_)) fun ρ Q E h => iha.e _ _ _ (wp_bindI h fun p h => blM_ok (E := E) (wp_bindI h fun k h => ?_))
    · cases k with
      | true => exact ihb.t _ _ _ h
      | false => exact h
    · cases k with
      | true => exact ihb.e _ _ _ h
      | false => exact h
  | or a b iha ihb =>
    refine ok_ofT (fun ρ Q E h => iha.t _ _ _ (wp_bindI h fun k h => ?_)) fun ρ Q E h => iha.e _ _ _ (wp_bindI h fun p h => blM_ok (E := E) (wp_bindI h fun k h => ?_))
    · cases k with
      | true => exact h
      | false => exact ihb.t _ _ _ h
    · cases k with
      | true => exact h
      | false => exact ihb.e _ _ _ h
  | one a ih => exact ok_ofT (fun ρ Q E h => ih.t _ _ _ h) fun ρ Q E h => ih.e _ _ _ h
  | ite c a b ihc iha ihb =>
    have he : ∀ (ρ : Env') (Q : PV → Prop) (E : Exn → Prop), (bind ((ev S c).t ρ) fun k => if k = true then (ev S a).e ρ else (ev S b).e ρ).wp Q E → (den S.sig c).t ρ (fun k => if k then (den S.sig a).e ρ Q E else (den S.sig b).e ρ Q E) E := fun ρ Q E h => by
      refine ihc.t _ _ _ (wp_bindI h fun k h => ?_)
      cases k with
      | true => exact iha.e _ _ _ h
      | false => exact ihb.e _ _ _ h
    exact { ok_ofE he with t := fun _ _ _ h => h }
  | call k as ih => exact ok_ofE fun ρ Q E h => ih.a _ _ _ (wp_bindI h fun ps h => h)
  | callv i m as ih => exact ok_ofE fun ρ Q E h => varM_ok (E := E) (wp_bindI h fun p h => fnM_ok (E := E) (wp_bindI h fun k h => ⟨(wp_req.mp h).1, ih.a _ _ _ (wp_bindI (wp_req.mp h).2 fun ps h => h)⟩))
  | blt f as ih => exact ok_ofN fun ρ Q E h => ih.b _ _ _ (wp_bindI h fun ps h => bltM_ok h)
  | isi a ts ih => exact ok_ofE fun ρ Q E h => ih.o _ _ _ (wp_bindI h fun p h => wp_req.mp h)
  | idx a b iha ihb => exact ok_ofE fun ρ Q E h => iha.o _ _ _ (wp_bindI h fun p h => ihb.e _ _ _ (wp_bindI h fun q h => idxM_ok h))
  | slc a lo hi iha ihl ihh => exact ok_ofN fun ρ Q E h => iha.o _ _ _ (wp_bindI h fun p h => ihl.a _ _ _ (wp_bindI h fun l h => partM_ok (E := E) (wp_bindI h fun i h => ihh.a _ _ _ (wp_bindI h fun l h => partM_ok (E := E) (wp_bindI h fun i h => slcM_ok h)))))
  | rev a ih => exact ok_ofN fun ρ Q E h => ih.o _ _ _ (wp_bindI h fun p h => revM_ok (E := E) h)
  | tup as ih => exact ok_ofE fun ρ Q E h => ih.a _ _ _ (wp_bindI h fun ps h => wp_req.mp h)
  | lst as ih => exact ok_ofN fun ρ Q E h => ih.a _ _ _ (wp_bindI h fun ps h => wp_req.mp h)
  | comp tg src cnd elt own ihs ihc ihe =>
    refine ok_ofN fun ρ Q E h => ihs.i _ _ _ (wp_bindI h fun items h => ?_)
    rw [wp_bind] at h
    refine compM_ok (E := E) (one := (tgM tg).one) (cnd := fun ρ' => if cnd.isNil = true then M.ret true else nox ((ev S cnd).t ρ')) (elt := fun ρ' => nox ((ev S elt).e ρ')) (fun p ρ R E h => (tgM_ok tg).one _ _ _ E h) (fun ρ R E h => ?_) (fun ρ R E h => ihe.e _ _ _ (wp_nox _ h)) _ _ _ h
    split at h
    · rename_i z
      rw [if_pos z]
      exact h
    · rename_i z
      rw [if_neg z]
      exact ihc.t _ _ _ (wp_nox _ h)
  | rng1 a ih => exact ok_ofI (fun ρ Q E h => ih.e _ _ _ (wp_bindI h fun p h => rng1M_ok h)) fun ρ Q E h => ih.e _ _ _ (wp_bindI h fun p h => rng1M_ok h)
  | rng2 a b iha ihb => exact ok_ofI (fun ρ Q E h => iha.e _ _ _ (wp_bindI h fun p h => ihb.e _ _ _ (wp_bindI h fun q h => rng2M_ok h))) fun ρ Q E h => iha.e _ _ _ (wp_bindI h fun p h => ihb.e _ _ _ (wp_bindI h fun q h => rng2M_ok h))
  | rng3 a b c iha ihb ihc => exact ok_ofI (fun ρ Q E h => iha.e _ _ _ (wp_bindI h fun p h => ihb.e _ _ _ (wp_bindI h fun q h => ihc.e _ _ _ (wp_bindI h fun r h => rng3M_ok h)))) fun ρ Q E h => iha.e _ _ _ (wp_bindI h fun p h => ihb.e _ _ _ (wp_bindI h fun q h => ihc.e _ _ _ (wp_bindI h fun r h => rng3M_ok h)))
  | trg m lo hi ihl ihh =>
    refine ok_ofN fun ρ Q E h => ?_
    have h : (if lo.isNil = true then bind ((ev S hi).e ρ) fun q => trgM m (.int 0) q else bind ((ev S lo).e ρ) fun p => bind ((ev S hi).e ρ) fun q => trgM m p q).wp Q E := h
    show if lo.isNil = true then _ else _
    split at h
    · rename_i z
      rw [if_pos z]
      exact ihh.e _ _ _ (wp_bindI h fun q h => trgM_ok h)
    · rename_i z
      rw [if_neg z]
      exact ihl.e _ _ _ (wp_bindI h fun p h => ihh.e _ _ _ (wp_bindI h fun q h => trgM_ok h))
  | zip a b iha ihb => exact ok_ofI (fun ρ Q E h => iha.o _ _ _ (wp_bindI h fun p h => ihb.o _ _ _ (wp_bindI h fun q h => zipM_ok h))) fun ρ Q E h => iha.e _ _ _ (wp_bindI h fun p h => ihb.e _ _ _ (wp_bindI h fun q h => zipM_ok h))
  | enum a ih => exact ok_ofI (fun ρ Q E h => ih.o _ _ _ (wp_bindI h fun p h => itemsLM_ok (E := E) (wp_bindI h fun xs h => h))) fun ρ Q E h => ih.e _ _ _ (wp_bindI h fun p h => itemsLM_ok (E := E) (wp_bindI h fun xs h => h))
  | lix a b iha ihb => exact ok_ofE fun ρ Q E h => iha.o _ _ _ (wp_bindI h fun p h => lstM_ok (E := E) (wp_bindI h fun xs h => ihb.e _ _ _ (wp_bindI h fun q h => lixM_ok h)))
  | cnt a b iha ihb => exact ok_ofE fun ρ Q E h => iha.o _ _ _ (wp_bindI h fun p h => lstM_ok (E := E) (wp_bindI h fun xs h => ihb.e _ _ _ (wp_bindI h fun q h => cntM_ok h)))
  | dnew => exact ok_ofN fun _ _ _ h => h
  | dgt a k x iha ihk ihx => exact ok_ofE fun ρ Q E h => iha.o _ _ _ (wp_bindI h fun p h => dctM_ok (E := E) (wp_bindI h fun kvs h => ihk.e _ _ _ (wp_bindI h fun q h => keyM_ok (E := E) (wp_bindI h fun j h => by
      split at h
      · rename_i z
        rw [if_pos z]
        exact h
      · rename_i z
        rw [if_neg z]
        exact ihx.e _ _ _ (wp_bindI h fun _ h => h)))))
  | dvw b a ih => exact ok_ofI (fun ρ Q E h => ih.e _ _ _ (wp_bindI h fun p h => dctM_ok (E := E) (wp_bindI h fun _ h => h))) fun ρ Q E h => ih.e _ _ _ (wp_bindI h fun p h => dctM_ok (E := E) (wp_bindI h fun _ h => h))
  | dco tg src cnd ky vl own ihs ihc ihk ihe =>
    refine ok_ofN fun ρ Q E h => ihs.i _ _ _ (wp_bindI h fun items h => ?_)
    rw [wp_bind] at h
    refine dcoM_ok (E := E) (one := (tgM tg).one) (cnd := fun ρ' => if cnd.isNil = true then M.ret true else nox ((ev S cnd).t ρ')) (ky := fun ρ' => nox ((ev S ky).e ρ')) (vl := fun ρ' => nox ((ev S vl).e ρ')) (fun p ρ R E h => (tgM_ok tg).one _ _ _ E h) (fun ρ R E h => ?_) (fun ρ R E h => ihk.e _ _ _ (wp_nox _ h)) (fun ρ R E h => ihe.e _ _ _ (wp_nox _ h)) _ _ _ h
    split at h
    · rename_i z
      rw [if_pos z]
      exact h
    · rename_i z
      rw [if_neg z]
      exact ihc.t _ _ _ (wp_nox _ h)
  | dd1 k v ihk ihv => exact ok_ofN fun ρ Q E h => ihk.e _ _ _ (wp_bindI h fun q h => keyM_ok (E := E) (wp_bindI h fun j h => ihv.e _ _ _ (wp_bindI h fun z h => h)))
  | isx i c => exact ok_ofE fun ρ Q E h => exM_ok (E := E) (wp_bindI h fun k z => z)
  | lam k b ih => exact ok_ofE fun ρ Q E h => ⟨_, fun Q E z => ih.e _ _ _ z, wp_nox _ h⟩
  | thk i => exact ok_ofE fun ρ Q E h => thW_mono (fun z => ⟨Q, E, fun _ z => z, fun _ z => z, z⟩) (thM_ok h)
  | nil => exact ok_ofA (fun _ _ _ h => h) fun _ _ _ h => h
  | cons a b iha ihb => exact ok_ofA (fun ρ Q E h => iha.e _ _ _ (wp_bindI h fun p h => ihb.a _ _ _ (wp_bindI h fun ps h => h))) fun ρ Q E h => iha.o _ _ _ (wp_bindI h fun p h => ihb.b _ _ _ (wp_bindI h fun ps h => h))

/-! ### statements -/
def Oc.on (k : Env' → M Oc) : Oc → M Oc
  | .nx ρ => k ρ
  | .rt p => ret (.rt p)
  | .bk ρ => ret (.bk ρ)
  | .ct ρ => ret (.ct ρ)
def Oc.lp (k : Env' → M Oc) : Oc → M Oc
  | .nx ρ => k ρ
  | .rt p => ret (.rt p)
  | .bk ρ => ret (.nx ρ)
  | .ct ρ => k ρ
def loopM (one : PV → Env' → M Env') (body : Env' → M Oc) : List PV → Env' → M Oc
  | [], ρ => ret (.nx ρ)
  | x :: xs, ρ => bind (one x ρ) fun ρ' => bind (body ρ') (Oc.lp fun ρ2 => loopM one body xs ρ2)
def whileM (c : Env' → M Bool) (body : Env' → M Oc) : Nat → Env' → M Oc
  | 0, _ => bad
  | n + 1, ρ => bind (c ρ) fun k => if k = true then bind (body ρ) (Oc.lp fun ρ2 => whileM c body n ρ2) else ret (.nx ρ)
@[irreducible] def fuel : Nat := 2 ^ 1048576
def frzM : Option Slot → M Slot
  | some (.ol xs) => ret (.fz (.lst xs))
  | some (.od kvs) => ret (.fz (.dct kvs))
  | _ => bad
noncomputable def augM : Bop → PV → PV → M PV
  | op, .int i, .int j => binM op (.int i) (.int j)
  | _, _, _ => bad
noncomputable def extM : List PV → PV → M (List PV)
  | xs, .lst ys => req (xs.length + ys.length ≤ sizeLine) (ret (xs ++ ys))
  | _, _ => bad
def stoM (xs : List PV) : PV → PV → M (List PV)
  | .int i, p => bind (ofO (ixN xs.length i)) fun j => ret (xs.set j p)
  | _, _ => bad
noncomputable def triO (i : Nat) : Oc → M Oc
  | .nx ρ => req ((ρ.set i .un).all Slot.nex = true) (ret (.nx (ρ.set i .un)))
  | .rt p => ret (.rt p)
  | _ => bad
noncomputable def evS (S : MSig) : Sx → Env' → M Oc
  | .nil, ρ => ret (.nx ρ)
  | .seq a b, ρ => bind (evS S a ρ) (Oc.on (evS S b))
  | .pass, ρ => ret (.nx ρ)
  | .brk, ρ => ret (.bk ρ)
  | .cnt, ρ => ret (.ct ρ)
  | .set m i x, ρ => bind ((ev S x).s m ρ) fun s => ret (.nx (ρ.set i s))
  | .setD i, ρ => ret (.nx (ρ.set i (.od [])))
  | .frz i, ρ => bind (frzM ρ[i]?) fun s => ret (.nx (ρ.set i s))
  | .unp tg x, ρ => bind ((ev S x).e ρ) fun p => bind ((tgM tg).one p ρ) fun ρ' => ret (.nx ρ')
  | .par3 i a j b k c, ρ => bind ((ev S a).e ρ) fun p => bind ((ev S b).e ρ) fun q => bind ((ev S c).e ρ) fun r => ret (.nx (((ρ.set i (.fz p)).set j (.fz q)).set k (.fz r)))
  | .par m i a n j b, ρ => bind ((ev S a).s m ρ) fun s => bind ((ev S b).s n ρ) fun t => ret (.nx ((ρ.set i s).set j t))
  | .aug op i x, ρ => bind (varM ρ[i]?) fun p => bind ((ev S x).o ρ) fun q => bind (augM op p q) fun r => ret (.nx (ρ.set i (.fz r)))
  | .app i x, ρ => bind (olM ρ[i]?) fun xs => bind ((ev S x).e ρ) fun p => req (xs.length < sizeLine) (ret (.nx (ρ.set i (.ol (xs ++ [p])))))
  | .appP i j x, ρ => bind (olM ρ[i]?) fun xs => bind (olM ρ[j]?) fun ys => bind ((ev S x).e ρ) fun p => bind (popM ys p) fun z => req (xs.length < sizeLine) (ret (.nx ((ρ.set j (.ol z.2)).set i (.ol (xs ++ [z.1])))))
  | .popS i j, ρ => bind (olM ρ[j]?) fun ys => bind (lastM ys) fun z => ret (.nx ((ρ.set j (.ol z.2)).set i (.fz z.1)))
  | .ext i x, ρ => bind (olM ρ[i]?) fun xs => bind ((ev S x).e ρ) fun p => bind (extM xs p) fun ys => ret (.nx (ρ.set i (.ol ys)))
  | .sto i k x, ρ => bind ((ev S x).e ρ) fun p => bind (olM ρ[i]?) fun xs => bind ((ev S k).e ρ) fun q => bind (stoM xs q p) fun ys => ret (.nx (ρ.set i (.ol ys)))
  | .stoD i k x, ρ => bind ((ev S x).e ρ) fun p => bind (odM ρ[i]?) fun xs => bind ((ev S k).e ρ) fun q => bind (keyM q) fun j => req (xs.length < sizeLine) (ret (.nx (ρ.set i (.od (dp xs j p)))))
  | .exp x, ρ => bind ((ev S x).e ρ) fun _ => ret (.nx ρ)
  | .ite c a b, ρ => bind ((ev S c).t ρ) fun k => if k = true then evS S a ρ else evS S b ρ
  | .for_ tg src body, ρ => bind ((ev S src).f ρ) fun items => loopM (tgM tg).one (evS S body) items ρ
  | .whl c body, ρ => whileM (ev S c).t (evS S body) fuel ρ
  | .ret x, ρ => bind ((ev S x).e ρ) fun p => ret (.rt p)
  | .retN, _ => ret (.rt .non)
  | .rse c, _ => exn ⟨c, none⟩
  | .dead, _ => bad
  | .tri x c i s, ρ => cat ((ev S x).e ρ) (fun _ => ret (.nx ρ)) fun y => req (y.arg = none ∧ S.sb y.cls c = true) (bind (nox (evS S s (ρ.set i (.ex y.cls)))) (triO i))

def Kont.of (K : Kont) : Oc → Prop
  | .nx ρ => K.nx ρ
  | .rt p => K.rt p
  | .bk ρ => K.bk ρ
  | .ct ρ => K.ct ρ
theorem loopM_ok {one : PV → Env' → M Env'} {one' : PV → Env' → (Env' → Prop) → Prop} (h1 : ∀ p ρ R E, (one p ρ).wp R E → one' p ρ R) {body : Env' → M Oc} {body' : Env' → Kont → Prop} (hb : ∀ ρ K, (body ρ).wp K.of K.ex → body' ρ K) (K : Kont) :
    ∀ xs ρ, (loopM one body xs ρ).wp K.of K.ex → loopW one' body' K xs ρ
  | [], ρ, h => h
  | x :: xs, ρ, h => by
    refine h1 _ _ _ K.ex (wp_bindI h fun ρ' h => ?_)
    refine hb _ _ (wp_bindI h fun o h => ?_)
    cases o with
    | nx ρ2 => exact loopM_ok h1 hb K xs ρ2 h
    | ct ρ2 => exact loopM_ok h1 hb K xs ρ2 h
    | bk ρ2 => exact h
    | rt p => exact h
theorem whileM_ok {c : Env' → M Bool} {c' : Env' → (Bool → Prop) → (Exn → Prop) → Prop} (h1 : ∀ ρ R E, (c ρ).wp R E → c' ρ R E) {body : Env' → M Oc} {body' : Env' → Kont → Prop} (hb : ∀ ρ K, (body ρ).wp K.of K.ex → body' ρ K) (K : Kont) :
    ∀ n ρ, (whileM c body n ρ).wp K.of K.ex → whileW c' body' K n ρ
  | 0, ρ, h => h
  | n + 1, ρ, h => by
    refine h1 _ _ K.ex (wp_bindI h fun k h => ?_)
    cases k with
    | true =>
      refine hb _ _ (wp_bindI h fun o h => ?_)
      cases o with
      | nx ρ2 => exact whileM_ok h1 hb K n ρ2 h
      | ct ρ2 => exact whileM_ok h1 hb K n ρ2 h
      | bk ρ2 => exact h
      | rt p => exact h
    | false => exact h
theorem evS_ok (S : MSig) : ∀ (x : Sx) (ρ : Env') (K : Kont), (evS S x ρ).wp K.of K.ex → wpS S.sig x ρ K
  | .nil, ρ, K, h => h
  | .seq a b, ρ, K, h => by
    refine evS_ok S a ρ _ (wp_bindI h fun o h => ?_)
    cases o with
    | nx ρ2 => exact evS_ok S b ρ2 K h
    | ct ρ2 => exact h
    | bk ρ2 => exact h
    | rt p => exact h
  | .pass, ρ, K, h => h
  | .brk, ρ, K, h => h
  | .cnt, ρ, K, h => h
  | .set m i x, ρ, K, h => (ev_ok S x).s _ _ _ _ (wp_bindI h fun s h => h)
  | .setD i, ρ, K, h => h
  | .frz i, ρ, K, h => by
    have h : (bind (frzM ρ[i]?) fun s => ret (Oc.nx (ρ.set i s))).wp K.of K.ex := h
    show (match ρ[i]? with
      | some (.ol xs) => K.nx (ρ.set i (.fz (.lst xs)))
      | some (.od kvs) => K.nx (ρ.set i (.fz (.dct kvs)))
      | _ => False)
    cases e : ρ[i]? with
    | none =>
      rw [e] at h
      exact h.elim
    | some s =>
      rw [e] at h
      cases s <;> first | exact h | exact False.elim h
  | .unp tg x, ρ, K, h => (ev_ok S x).e _ _ _ (wp_bindI h fun p h => (tgM_ok tg).one _ _ _ K.ex (wp_bindI h fun ρ' h => h))
  | .par3 i a j b k c, ρ, K, h => (ev_ok S a).e _ _ _ (wp_bindI h fun s h => (ev_ok S b).e _ _ _ (wp_bindI h fun s h => (ev_ok S c).e _ _ _ (wp_bindI h fun s h => h)))
  | .par m i a n j b, ρ, K, h => (ev_ok S a).s _ _ _ _ (wp_bindI h fun s h => (ev_ok S b).s _ _ _ _ (wp_bindI h fun s h => h))
  | .aug op i x, ρ, K, h => varM_ok (E := K.ex) (wp_bindI h fun p h => (ev_ok S x).o _ _ _ (wp_bindI h fun q h => by
      cases p <;> first | (exact h.elim; done) | skip
      cases q <;> first | (exact h.elim; done) | skip
      exact binM_ok (E := K.ex) (wp_bindI h fun r h => h)))
  | .app i x, ρ, K, h => by
    have h : (bind (olM ρ[i]?) fun xs => bind ((ev S x).e ρ) fun p => req (xs.length < sizeLine) (ret (Oc.nx (ρ.set i (.ol (xs ++ [p])))))).wp K.of K.ex := h
    show olW ρ[i]? _
    unfold olM at h
    split at h
    · rename_i e
      rw [e]
      exact (ev_ok S x).e _ _ _ (wp_bindI h fun p h => wp_req.mp h)
    · exact h.elim
  | .appP i j x, ρ, K, h => olM_ok2 (E := K.ex) (wp_bindI h fun xs h => olM_ok2 (E := K.ex) (wp_bindI h fun ys h => (ev_ok S x).e _ _ _ (wp_bindI h fun p h => popM_ok (E := K.ex) (wp_bindI h fun z h => wp_req.mp h))))
  | .popS i j, ρ, K, h => olM_ok2 (E := K.ex) (wp_bindI h fun ys h => lastM_ok (E := K.ex) (wp_bindI h fun z h => h))
  | .ext i x, ρ, K, h => by
    have h : (bind (olM ρ[i]?) fun xs => bind ((ev S x).e ρ) fun p => bind (extM xs p) fun ys => ret (Oc.nx (ρ.set i (.ol ys)))).wp K.of K.ex := h
    show olW ρ[i]? _
    unfold olM at h
    split at h
    · rename_i e
      rw [e]
      exact (ev_ok S x).e _ _ _ (wp_bindI h fun p h => by
        cases p <;> first | (rw [wp_bind] at h; exact wp_req.mp h) | exact h.elim)
    · exact h.elim
  | .sto i k x, ρ, K, h => (ev_ok S x).e _ _ _ (wp_bindI h fun p h => by
      have h : (bind (olM ρ[i]?) fun xs => bind ((ev S k).e ρ) fun q => bind (stoM xs q p) fun ys => ret (Oc.nx (ρ.set i (.ol ys)))).wp K.of K.ex := h
      show olW ρ[i]? _
      unfold olM at h
      split at h
      · rename_i xs e
        rw [e]
        refine (ev_ok S k).e _ _ _ (wp_bindI h fun q h => ?_)
        cases q <;> first | (exact h.elim; done) | skip
        rename_i z
        have h : (bind (bind (ofO (ixN xs.length z)) fun j => ret (xs.set j p)) fun ys => ret (Oc.nx (ρ.set i (.ol ys)))).wp K.of K.ex := h
        show (match ixN xs.length z with
          | some j => K.nx (ρ.set i (.ol (xs.set j p)))
          | none => False)
        unfold ofO at h
        split at h
        · rename_i e2
          rw [e2]
          exact h
        · exact h.elim
      · exact h.elim)
  | .stoD i k x, ρ, K, h => (ev_ok S x).e _ _ _ (wp_bindI h fun p h => odM_ok (E := K.ex) (wp_bindI h fun xs h => (ev_ok S k).e _ _ _ (wp_bindI h fun q h => keyM_ok (E := K.ex) (wp_bindI h fun j h => wp_req.mp h))))
  | .exp x, ρ, K, h => (ev_ok S x).e _ _ _ (wp_bindI h fun s h => h)
  | .ite c a b, ρ, K, h => (ev_ok S c).t _ _ _ (wp_bindI h fun k h => by
      cases k with
      | true => exact evS_ok S a ρ K h
      | false => exact evS_ok S b ρ K h)
  | .for_ tg src body, ρ, K, h => (ev_ok S src).f _ _ _ (wp_bindI h fun items h => loopM_ok (one := (tgM tg).one) (fun p ρ R E h => (tgM_ok tg).one _ _ _ E h) (evS_ok S body) K items ρ h)
  | .whl c body, ρ, K, h => ⟨fuel, whileM_ok (c := (ev S c).t) (fun ρ R E h => (ev_ok S c).t _ _ _ h) (evS_ok S body) K fuel ρ h⟩
  | .ret x, ρ, K, h => (ev_ok S x).e _ _ _ (wp_bindI h fun s h => h)
  | .retN, _, K, h => h
  | .rse c, _, K, h => h
  | .dead, _, _, h => h
  | .tri x c i s, ρ, K, h => by
    refine (den_mono S.sig x).e (fun _ z => z) (fun y z => ?_) ((ev_ok S x).e _ _ _ (wp_cat _ h))
    have z := wp_req.mp z
    refine ⟨z.1.1, z.1.2, evS_ok S s _ (triK i K) ?_⟩
    refine wp_mono (fun o ho => ?_) (fun _ q => q) _ (wp_nox _ (wp_bindI z.2 fun o ho => ho))
    cases o <;> first | exact wp_req.mp ho | exact ho | exact ho.elim

/-! ### defs -/
def fin : Oc → M PV
  | .nx _ => ret .non
  | .rt p => ret p
  | _ => bad
noncomputable def evDef (S : MSig) (nl ar : Nat) (sx : Sx) (as : List PV) : M PV := if as.length = ar then bind (evS S sx (entry nl as)) fin else bad
noncomputable def mfOf (S : MSig) (nl ar : Nat) (sx : Sx) : MF where
  ar := ar
  f := evDef S nl ar sx
  len := fun as Q E h => by
    unfold evDef at h
    split at h
    · assumption
    · exact h.elim
theorem mf_phi {S : MSig} {N ar : List Str} {sx : Sx} {as : List PV} {Q : PV → Prop} {E : Exn → Prop} (h : (mfOf S N.length ar.length sx).spec.run as Q E) : (phiOf S.sig ⟨N, ar.length, sx⟩).run as Q E := by
  have h : (evDef S N.length ar.length sx as).wp Q E := h
  unfold evDef at h
  split at h
  · rename_i e
    refine ⟨e, evS_ok S sx _ _ (wp_bindI h fun o h => ?_)⟩
    cases o <;> exact h
  · exact h.elim
theorem sp_weak {C : Cfg} {Φ Φ' : FSpec} (h : ∀ as Q E, Φ'.run as Q E → Φ.run as Q E) {vs : List V} {H : Hp} {Q : VK} {E : XK} (q : spOf C Φ' vs H Q E) : spOf C Φ vs H Q E := by
  obtain ⟨g, ps, cd, w, r, q⟩ := q
  exact ⟨g, ps, cd, w, r, h _ _ _ q⟩
theorem FnG.weak {P : Program} {w : World} {C : Cfg} {mg : Str → Option Value} {base : Heap} {k : Nat} {f : Addr} {fd : FuncData} {ar : List Str} {Φ Φ' : FSpec} (F : FnG P w C.K mg base k f fd ar (spOf C Φ)) (h : ∀ as Q E, Φ'.run as Q E → Φ.run as Q E) :
    FnG P w C.K mg base k f fd ar (spOf C Φ') :=
  ⟨fun vs H Q E q => F.len vs H Q E (sp_weak h q), fun A outer s H args us vs Q E hr gd en bt rv q => F.run A outer s H args us vs Q E hr gd en bt rv (sp_weak h q)⟩
theorem defM_ok {n : Nms} {cn : Cns} {S : MSig} {C : Cfg} {P : Program} {w : World} {mg : Str → Option Value} {base : Heap} {k : Nat} {f : Addr} {x qual : Str} {st : Stmt} {fd : FuncData} {ar : List Str} {Nm : List Str} {sx : Sx}
    (F : L2.Fun C.K x qual st f fd) (Sc : FnScope Nm ar (defScope st)) {lm : Bool} (L : Lib ⟨Nm, n.fn, n.cn, n.wn, n.cl, f0⟩ S.sig C P w mg base k) (R : Crs cn C mg) (hk : (chkS ⟨Nm, n.fn, n.cn, n.wn, n.cl, flm lm⟩ cn sx).blk (defScope st) (defBody st) = true)
    (hlm : lm = true → ∃ c Pt, LamX.TabB base mg c Pt ∧ CodeOf C.K f (.ref c) ∧ (Pt, lamN qual) ∈ C.Tb ∧ ∀ p, p ∈ C.Tb → p.1 = Pt → p.2 = lamN qual) :
    FnG P w C.K mg base (k + (flm lm).up + 1) f fd ar (spOf C (mfOf S Nm.length ar.length sx).spec) :=
  (def_ok F Sc L R hk hlm).weak fun as Q E h => mf_phi h
noncomputable def evW (S : MSig) (nl : Nat) (sx : Sx) (m : M PV) : M PV := bind (evS (S.tkd m) sx (entryW nl)) fin
noncomputable def mwOf (S : MSig) (nl : Nat) (sx : Sx) : MW := ⟨evW S nl sx⟩
theorem mw_phi {S : MSig} {nl : Nat} {sx : Sx} {t : (PV → Prop) → (Exn → Prop) → Prop} {Q : PV → Prop} (h : (mwOf S nl sx).spec.run t Q) : (phiW S.sig nl sx).run t Q := by
  obtain ⟨m, h1, h2⟩ := h
  refine ⟨fun Q E => m.wp Q E, h1, ?_⟩
  have h2 : (evW S nl sx m).wp Q fun _ => False := h2
  exact evS_ok (S.tkd m) sx _ (endK Q fun _ => False) (wp_bindI h2 fun o h => by cases o <;> exact h)
theorem wordM_ok {n : Nms} {cn : Cns} {S : MSig} {C : Cfg} {P : Program} {w : World} {mg : Str → Option Value} {base : Heap} {k : Nat} {f : Addr} {x qual : Str} {st : Stmt} {fd : FuncData} {Nm : List Str} {sx : Sx} {a : Str}
    (F : L2.Fun C.K x qual st f fd) (Sc : FnScope Nm [a] (defScope st)) (hb : Binds C.K fd [a] []) (hkp : PySem.W.keepIn C.K (.ref f) = true) (L : Lib ⟨Nm, n.fn, n.cn, n.wn, n.cl, f0⟩ S.sig C P w mg base k) (R : Crs cn C mg)
    (hk : (chkS ⟨Nm, n.fn, n.cn, n.wn, n.cl, fwd⟩ cn sx).blk (defScope st) (defBody st) = true) : ∃ cdv, Wd C P w mg base (k + 1) f Nm qual (defScope st) cdv a (mwOf S Nm.length sx).spec := by
  obtain ⟨cdv, W⟩ := word_ok F Sc hb hkp L R hk
  exact ⟨cdv, W.keep, fun A outer s H f0 t g Q hr gd en cd w0 ht h => W.run A outer s H f0 t g Q hr gd en cd w0 ht (mw_phi h)⟩
def drawF : MF where
  ar := 2
  f := fun as => match as with
    | [.tok _ _, .int m] => pick m fun r => ret (.int r)
    | _ => bad
  len := fun as Q E h => by
    split at h
    · rfl
    · exact h.elim
theorem drawF_ok {as : List PV} {Q : PV → Prop} {E : Exn → Prop} (h : drawF.spec.run as Q E) : drawSpec.run as Q E := by
  have h : (drawF.f as).wp Q E := h
  unfold drawF at h
  simp only at h
  split at h
  · rename_i a c m _
    exact ⟨a, c, m, rfl, h.1, h.2.1, h.2.2⟩
  · exact h.elim
end Rk

set_option maxHeartbeats 4000000
namespace Rk
open PySem PySem.Spec PyProof.Rows L2 M

/-! ### what may be compared: a depth, all texts whole -/
mutual
def PV.sh : Nat → PV → Bool
  | _, .non => true
  | _, .bl _ => true
  | _, .int _ => true
  | _, .str x => PyData.strOk x
  | d, .tup xs => match d with
    | 0 => false
    | d + 1 => PV.shs d xs
  | d, .lst xs => match d with
    | 0 => false
    | d + 1 => PV.shs d xs
  | _, .dct _ => false
  | _, .tok _ _ => false
  | _, .fn _ => false
  | _, .scr _ => false
def PV.shs : Nat → List PV → Bool
  | _, [] => true
  | d, x :: xs => PV.sh d x && PV.shs d xs
end
mutual
theorem sh_spec : ∀ (p : PV) (d : Nat), p.sh d = true → p.plain = true ∧ p.data.canLay0 = true ∧ p.data.depth ≤ d
  | .non, d, h => ⟨rfl, rfl, Nat.zero_le _⟩
  | .bl _, d, h => ⟨rfl, rfl, Nat.zero_le _⟩
  | .int _, d, h => ⟨rfl, rfl, Nat.zero_le _⟩
  | .str x, d, h => by
    simp only [PV.sh] at h
    refine ⟨rfl, ?_, ?_⟩
    · simp only [PV.data, PyData.canLay0]
      exact h
    · simp only [PV.data, PyData.depth]
      exact Nat.zero_le _
  | .tup xs, d, h => by
    cases d with
    | zero => simp [PV.sh] at h
    | succ d =>
      have h : PV.shs d xs = true := by simpa [PV.sh] using h
      obtain ⟨h1, h2, h3⟩ := shs_spec xs d h
      refine ⟨h1, ?_, ?_⟩
      · simpa only [PV.data, PyData.canLay0] using h2
      · simp only [PV.data, PyData.depth]
        omega
  | .lst xs, d, h => by
    cases d with
    | zero => simp [PV.sh] at h
    | succ d =>
      have h : PV.shs d xs = true := by simpa [PV.sh] using h
      obtain ⟨h1, h2, h3⟩ := shs_spec xs d h
      refine ⟨h1, ?_, ?_⟩
      · simpa only [PV.data, PyData.canLay0] using h2
      · simp only [PV.data, PyData.depth]
        omega
  | .dct _, d, h => by simp [PV.sh] at h
  | .tok _ _, d, h => by simp [PV.sh] at h
  | .fn _, d, h => by simp [PV.sh] at h
  | .scr _, d, h => by simp [PV.sh] at h
theorem shs_spec : ∀ (xs : List PV) (d : Nat), PV.shs d xs = true → PV.plains xs = true ∧ PyData.canLayAll0 (PV.datas xs) = true ∧ PyData.depthAll (PV.datas xs) ≤ d
  | [], d, h => ⟨rfl, rfl, Nat.zero_le _⟩
  | x :: xs, d, h => by
    simp only [PV.shs, Bool.and_eq_true] at h
    obtain ⟨a1, a2, a3⟩ := sh_spec x d h.1
    obtain ⟨b1, b2, b3⟩ := shs_spec xs d h.2
    refine ⟨?_, ?_, ?_⟩
    · simp only [PV.plains, a1, b1, Bool.and_self]
    · simp only [PV.datas, PyData.canLayAll0, a2, b2, Bool.and_self]
    · simp only [PV.datas, PyData.depthAll]
      omega
end
theorem shp_of {p : PV} (h : p.sh 64 = true) : p.shp = true := by
  obtain ⟨h1, h2, h3⟩ := sh_spec p 64 h
  simp only [PV.shp, SeqAt.shaped, h1, h2, Bool.true_and]
  exact decide_eq_true h3
theorem shs_all {d : Nat} : ∀ {xs : List PV}, (∀ x, x ∈ xs → x.sh d = true) → PV.shs d xs = true
  | [], _ => rfl
  | x :: xs, h => by
    simp only [PV.shs, Bool.and_eq_true]
    exact ⟨h x List.mem_cons_self, shs_all fun y hy => h y (List.mem_cons_of_mem _ hy)⟩

section
variable {Q : PV → Prop} {R : Bool → Prop} {E : Exn → Prop} {L : List PV → Prop} {Z : Slot → Prop} {ρ : Env'}
@[simp] theorem sh_non {d : Nat} : PV.sh d .non = true := (rfl)
@[simp] theorem sh_bl {d : Nat} {b : Bool} : PV.sh d (.bl b) = true := (rfl)
@[simp] theorem sh_int {d : Nat} {i : Int} : PV.sh d (.int i) = true := (rfl)
@[simp] theorem sh_str {d : Nat} {x : Str} : PV.sh d (.str x) = PyData.strOk x := (rfl)
@[simp] theorem sh_tup {d : Nat} {xs : List PV} : PV.sh (d + 1) (.tup xs) = PV.shs d xs := (rfl)
@[simp] theorem sh_lst {d : Nat} {xs : List PV} : PV.sh (d + 1) (.lst xs) = PV.shs d xs := (rfl)
@[simp] theorem shs_nil {d : Nat} : PV.shs d [] = true := (rfl)
@[simp] theorem shs_cons {d : Nat} {x : PV} {xs : List PV} : PV.shs d (x :: xs) = (PV.sh d x && PV.shs d xs) := (rfl)
@[simp] theorem eqv_int {i j : Int} : (PV.int i).eqv (.int j) = decide (i = j) := by
  show PyData.eqv (.int i) (.int j) = _
  simp only [PyData.eqv]
  rw [Bool.eq_iff_iff]
  simp
@[simp] theorem eqv_bl {i j : Bool} : (PV.bl i).eqv (.bl j) = decide (i = j) := by
  show PyData.eqv (.bool i) (.bool j) = _
  simp only [PyData.eqv]
  rw [Bool.eq_iff_iff]
  simp
@[simp] theorem eqv_str {i j : Str} : (PV.str i).eqv (.str j) = decide (i = j) := by
  show PyData.eqv (.str i) (.str j) = _
  simp only [PyData.eqv]
  rw [Bool.eq_iff_iff]
  simp
@[simp] theorem eqv_tupN : (PV.tup []).eqv (.tup []) = true := (rfl)
@[simp] theorem eqv_tupC {x y : PV} {xs ys : List PV} : (PV.tup (x :: xs)).eqv (.tup (y :: ys)) = (x.eqv y && (PV.tup xs).eqv (.tup ys)) := by
  simp only [PV.eqv, PV.data, PV.datas, PyData.eqv, PyData.eqvAll]
@[simp] theorem eqv_lstN : (PV.lst []).eqv (.lst []) = true := (rfl)
@[simp] theorem eqv_lstC {x y : PV} {xs ys : List PV} : (PV.lst (x :: xs)).eqv (.lst (y :: ys)) = (x.eqv y && (PV.lst xs).eqv (.lst ys)) := by
  simp only [PV.eqv, PV.data, PV.datas, PyData.eqv, PyData.eqvAll]
theorem eqv_tupI : ∀ {xs ys : List Int}, (PV.tup (xs.map .int)).eqv (.tup (ys.map .int)) = decide (xs = ys)
  | [], [] => rfl
  | [], _ :: _ => rfl
  | _ :: _, [] => rfl
  | x :: xs, y :: ys => by
    rw [List.map_cons, List.map_cons, eqv_tupC, eqv_tupI, eqv_int, Bool.eq_iff_iff]
    simp
theorem eqv_lstI : ∀ {xs ys : List Int}, (PV.lst (xs.map .int)).eqv (.lst (ys.map .int)) = decide (xs = ys)
  | [], [] => rfl
  | [], _ :: _ => rfl
  | _ :: _, [] => rfl
  | x :: xs, y :: ys => by
    rw [List.map_cons, List.map_cons, eqv_lstC, eqv_lstI, eqv_int, Bool.eq_iff_iff]
    simp
theorem shs_ints {d : Nat} {xs : List Int} : PV.shs d (xs.map .int) = true := shs_all fun x h => by
  obtain ⟨i, _, rfl⟩ := List.mem_map.mp h
  rfl
theorem shs_map {α : Type} {d : Nat} {f : α → PV} {ts : List α} (h : ∀ t, (f t).sh d = true) : PV.shs d (ts.map f) = true := shs_all fun x hx => by
  obtain ⟨t, _, rfl⟩ := List.mem_map.mp hx
  exact h t
theorem shp_ok {p : PV} (h : p.sh 64 = true) : (p.shp = true) = True := by rw [shp_of h]; simp
end

/-! ### the meaning, step by step -/
/-- bind, what comes after out of simp's sight -/
class Kt (α β : Type) where
  f : α → M β
def bnd {α β : Type} (m : M α) [k : Kt α β] : M β := bind m k.f
/-- try, what comes after out of simp's sight -/
class Kx (β : Type) where
  f : Exn → M β
def ctc {α β : Type} (m : M α) [k : Kt α β] [h : Kx β] : M β := cat m k.f h.f
section
variable {α β : Type}
@[simp] theorem ctc_ret (a : α) (k : Kt α β) (h : Kx β) : @ctc _ _ (ret a) k h = k.f a := (rfl)
@[simp] theorem ctc_exn (x : Exn) (k : Kt α β) (h : Kx β) : @ctc _ _ (exn x) k h = h.f x := (rfl)
@[simp] theorem ctc_bad (k : Kt α β) (h : Kx β) : @ctc _ _ bad k h = bad := (rfl)
@[simp] theorem ctc_rq (p : Prop) (m : M α) (k : Kt α β) (h : Kx β) : @ctc _ _ (req p m) k h = req p (@ctc _ _ m k h) := by
  unfold req
  split <;> rfl
@[simp] theorem ctc_ite (c : Prop) [Decidable c] (a b : M α) (k : Kt α β) (h : Kx β) : @ctc _ _ (if c then a else b) k h = if c then @ctc _ _ a k h else @ctc _ _ b k h := by split <;> rfl
@[simp] theorem nox_exn (x : Exn) : nox (exn x : M α) = bad := (rfl)
@[simp] theorem bind_ret (a : α) (k : Kt α β) : @bnd _ _ (ret a) k = k.f a := (rfl)
@[simp] theorem bind_exn (x : Exn) (k : Kt α β) : @bnd _ _ (exn x) k = exn x := (rfl)
@[simp] theorem bind_bad (k : Kt α β) : @bnd _ _ bad k = bad := (rfl)
@[simp] theorem bind_rq (p : Prop) (m : M α) (k : Kt α β) : @bnd _ _ (req p m) k = req p (@bnd _ _ m k) := bind_req
@[simp] theorem bind_pick (n : Int) (f : Int → M α) (k : Kt α β) : @bnd _ _ (pick n f) k = pick n fun r => @bnd _ _ (f r) k := (rfl)
@[simp] theorem bind_hand (f : Addr → Addr → M α) (k : Kt α β) : @bnd _ _ (hand f) k = hand fun a c => @bnd _ _ (f a c) k := (rfl)
@[simp] theorem bind_ite (c : Prop) [Decidable c] (a b : M α) (k : Kt α β) : @bnd _ _ (if c then a else b) k = if c then @bnd _ _ a k else @bnd _ _ b k := by split <;> rfl
@[simp] theorem bind_as {γ : Type} (m : M α) (k : Kt α β) (l : Kt β γ) : @bnd _ _ (@bnd _ _ m k) l = @bnd _ _ m ⟨fun a => @bnd _ _ (k.f a) l⟩ := bind_assoc m
@[simp] theorem nox_ret (a : α) : nox (ret a) = ret a := (rfl)
@[simp] theorem nox_bad : nox (bad : M α) = bad := (rfl)
@[simp] theorem nox_rq (p : Prop) (m : M α) : nox (req p m) = req p (nox m) := nox_req
@[simp] theorem nox_ite (c : Prop) [Decidable c] (a b : M α) : nox (if c then a else b) = if c then nox a else nox b := by split <;> rfl
theorem nox_bd (m : M α) (k : α → M β) : nox (bind m k) = bind (nox m) fun a => nox (k a) := by
  induction m with
  | pick n f ih =>
    show M.pick n (fun r => nox (bind (f r) k)) = M.pick n fun r => bind (nox (f r)) fun a => nox (k a)
    simp only [ih]
  | hand f ih =>
    show M.hand (fun a c => nox (bind (f a c) k)) = M.hand fun a c => bind (nox (f a c)) fun a => nox (k a)
    simp only [ih]
  | _ => rfl
@[simp] theorem nox_bind (m : M α) (k : Kt α β) : nox (@bnd _ _ m k) = @bnd _ _ (nox m) ⟨fun a => nox (k.f a)⟩ := nox_bd m k.f
@[simp] theorem nox_pick (n : Int) (f : Int → M α) : nox (pick n f) = pick n fun r => nox (f r) := (rfl)
@[simp] theorem req_true (m : M α) : req True m = m := req_of trivial
@[simp] theorem req_false (m : M α) : req False m = bad := if_neg id
@[simp] theorem req_eq (p : Prop) (m : M α) (v : α) : (req p m = ret v) = (p ∧ m = ret v) := propext req_ret
@[simp] theorem req_ex (p : Prop) (m : M α) (v : Exn) : (req p m = exn v) = (p ∧ m = exn v) := propext req_exn
@[simp] theorem ret_eq (a b : α) : (ret a = ret b) = (a = b) := by simp
@[simp] theorem ite_ret (c : Prop) [Decidable c] (a b : α) : (if c then ret a else ret b) = ret (if c then a else b) := by split <;> rfl
@[simp] theorem ite_sm (c : Prop) [Decidable c] (a : α) : (if c then a else a) = a := by split <;> rfl
@[simp] theorem wp_r (a : α) (Q : α → Prop) (E : Exn → Prop) : (ret a).wp Q E = Q a := (rfl)
@[simp] theorem wp_x (x : Exn) (Q : α → Prop) (E : Exn → Prop) : (exn x : M α).wp Q E = E x := (rfl)
@[simp] theorem wp_b (Q : α → Prop) (E : Exn → Prop) : (bad : M α).wp Q E = False := (rfl)
@[simp] theorem wp_q (p : Prop) (m : M α) (Q : α → Prop) (E : Exn → Prop) : (req p m).wp Q E = (p ∧ m.wp Q E) := propext wp_req
@[simp] theorem wp_p (n : Int) (f : Int → M α) (Q : α → Prop) (E : Exn → Prop) : (pick n f).wp Q E = (0 < n ∧ n < 2 ^ 200 ∧ ∀ r, 0 ≤ r → r < n → (f r).wp Q E) := (rfl)
@[simp] theorem wp_h (f : Addr → Addr → M α) (Q : α → Prop) (E : Exn → Prop) : (hand f).wp Q E = ∀ a c, (f a c).wp Q E := (rfl)
@[simp] theorem wp_i (c : Prop) [Decidable c] (a b : M α) (Q : α → Prop) (E : Exn → Prop) : (if c then a else b).wp Q E = if c then a.wp Q E else b.wp Q E := by split <;> rfl
theorem wp_bd (m : M α) (k : Kt α β) (Q : β → Prop) (E : Exn → Prop) : (@bnd _ _ m k).wp Q E = m.wp (fun a => (k.f a).wp Q E) E := wp_bind m
end
section
variable {c : Prop} [Decidable c]
@[simp] theorem ite_nx (a b : Env') : (if c then Oc.nx a else Oc.nx b) = Oc.nx (if c then a else b) := by split <;> rfl
@[simp] theorem ite_rt (a b : PV) : (if c then Oc.rt a else Oc.rt b) = Oc.rt (if c then a else b) := by split <;> rfl
@[simp] theorem ite_env (x y : Slot) (a b : Env') : (if c then x :: a else y :: b) = (if c then x else y) :: if c then a else b := by split <;> rfl
@[simp] theorem ite_pvs (x y : PV) (a b : List PV) : (if c then x :: a else y :: b) = (if c then x else y) :: if c then a else b := by split <;> rfl
@[simp] theorem ite_fz (a b : PV) : (if c then Slot.fz a else Slot.fz b) = Slot.fz (if c then a else b) := by split <;> rfl
@[simp] theorem ite_ol (a b : List PV) : (if c then Slot.ol a else Slot.ol b) = Slot.ol (if c then a else b) := by split <;> rfl
@[simp] theorem ite_pint (a b : Int) : (if c then PV.int a else PV.int b) = PV.int (if c then a else b) := by split <;> rfl
@[simp] theorem ite_pbl (a b : Bool) : (if c then PV.bl a else PV.bl b) = PV.bl (if c then a else b) := by split <;> rfl
@[simp] theorem ite_ptup (a b : List PV) : (if c then PV.tup a else PV.tup b) = PV.tup (if c then a else b) := by split <;> rfl
@[simp] theorem ite_plst (a b : List PV) : (if c then PV.lst a else PV.lst b) = PV.lst (if c then a else b) := by split <;> rfl
@[simp] theorem on_ite (k : Env' → M Oc) (a b : Oc) : Oc.on k (if c then a else b) = if c then Oc.on k a else Oc.on k b := by split <;> rfl
@[simp] theorem lp_ite (k : Env' → M Oc) (a b : Oc) : Oc.lp k (if c then a else b) = if c then Oc.lp k a else Oc.lp k b := by split <;> rfl
@[simp] theorem fin_ite (a b : Oc) : fin (if c then a else b) = if c then fin a else fin b := by split <;> rfl
@[simp] theorem truth_ite (a b : PV) : truthM (if c then a else b) = if c then truthM a else truthM b := by split <;> rfl
end
@[simp] theorem on_nx (k : Env' → M Oc) (ρ : Env') : Oc.on k (.nx ρ) = k ρ := (rfl)
@[simp] theorem on_rt (k : Env' → M Oc) (p : PV) : Oc.on k (.rt p) = ret (.rt p) := (rfl)
@[simp] theorem on_bk (k : Env' → M Oc) (ρ : Env') : Oc.on k (.bk ρ) = ret (.bk ρ) := (rfl)
@[simp] theorem on_ct (k : Env' → M Oc) (ρ : Env') : Oc.on k (.ct ρ) = ret (.ct ρ) := (rfl)
@[simp] theorem lp_nx (k : Env' → M Oc) (ρ : Env') : Oc.lp k (.nx ρ) = k ρ := (rfl)
@[simp] theorem lp_rt (k : Env' → M Oc) (p : PV) : Oc.lp k (.rt p) = ret (.rt p) := (rfl)
@[simp] theorem lp_bk (k : Env' → M Oc) (ρ : Env') : Oc.lp k (.bk ρ) = ret (.nx ρ) := (rfl)
@[simp] theorem lp_ct (k : Env' → M Oc) (ρ : Env') : Oc.lp k (.ct ρ) = k ρ := (rfl)
@[simp] theorem fin_nx (ρ : Env') : fin (.nx ρ) = ret .non := (rfl)
@[simp] theorem fin_rt (p : PV) : fin (.rt p) = ret p := (rfl)
@[simp] theorem varM_s (p : PV) : varM (some (.fz p)) = ret p := (rfl)
@[simp] theorem ownM_l (xs : List PV) : ownM (some (.ol xs)) = ret (.lst xs) := (rfl)
@[simp] theorem ownM_d (xs : List (Key × PV)) : ownM (some (.od xs)) = ret (.dct xs) := (rfl)
@[simp] theorem olM_s (xs : List PV) : olM (some (.ol xs)) = ret xs := (rfl)
@[simp] theorem exM_s (k : Nat) : exM (some (.ex k)) = ret k := (rfl)
@[simp] theorem thM_s (m : M PV) : thM m (some .th) = m := (rfl)
@[simp] theorem tkd_tk (S : MSig) (m : M PV) : (S.tkd m).tk = m := (rfl)
@[simp] theorem tkd_cn (S : MSig) (m : M PV) : (S.tkd m).cn = S.cn := (rfl)
@[simp] theorem tkd_sb (S : MSig) (m : M PV) : (S.tkd m).sb = S.sb := (rfl)
@[simp] theorem tkd_F (S : MSig) (m : M PV) (i : Nat) : (S.tkd m).F i = S.F i := (rfl)
@[simp] theorem isxB_n (sb : Nat → Nat → Bool) (k : Nat) : isxB sb k none = true := (rfl)
@[simp] theorem isxB_s (sb : Nat → Nat → Bool) (k j : Nat) : isxB sb k (some j) = sb k j := (rfl)
@[simp] theorem triO_nx (i : Nat) (ρ : Env') : triO i (.nx ρ) = req ((ρ.set i .un).all Slot.nex = true) (ret (.nx (ρ.set i .un))) := (rfl)
@[simp] theorem triO_rt (i : Nat) (p : PV) : triO i (.rt p) = ret (.rt p) := (rfl)
@[simp] theorem nex_fz (p : PV) : Slot.nex (.fz p) = true := (rfl)
@[simp] theorem nex_ol (p : List PV) : Slot.nex (.ol p) = true := (rfl)
@[simp] theorem nex_un : Slot.nex .un = true := (rfl)
@[simp] theorem nex_th : Slot.nex .th = true := (rfl)
@[simp] theorem cnt_m (xs : List PV) (q : PV) : cntM xs q = req (q.flat = true ∧ xs.all PV.flat = true) (ret (.int (xs.countP fun x => x.eqv q : Nat))) := (rfl)
@[simp] theorem frzM_l (xs : List PV) : frzM (some (.ol xs)) = ret (.fz (.lst xs)) := (rfl)
@[simp] theorem frzM_d (xs : List (Key × PV)) : frzM (some (.od xs)) = ret (.fz (.dct xs)) := (rfl)
@[simp] theorem asOwnM_f (p : PV) : asOwnM false p = ret (.fz p) := by cases p <;> rfl
@[simp] theorem asOwnM_d (xs : List (Key × PV)) : asOwnM true (.dct xs) = ret (.od xs) := (rfl)
@[simp] theorem odM_s (xs : List (Key × PV)) : odM (some (.od xs)) = ret xs := (rfl)
@[simp] theorem keyM_i (i : Int) : keyM (.int i) = ret (.inl i) := (rfl)
@[simp] theorem keyM_w (i : Str) : keyM (.str i) = ret (.inr i) := (rfl)
@[simp] theorem dctM_d (xs : List (Key × PV)) : dctM (.dct xs) = ret xs := (rfl)
@[simp] theorem keyP_i (i : Int) : keyP (.inl i) = .int i := (rfl)
@[simp] theorem keyP_w (i : Str) : keyP (.inr i) = .str i := (rfl)
@[simp] theorem nex_od (p : List (Key × PV)) : Slot.nex (.od p) = true := (rfl)
@[simp] theorem itl_eq (p : PV) : itemsLM p = req (p.isTy .dict = false) (itemsM p) := (rfl)
@[simp] theorem items_dct (xs : List (Key × PV)) : itemsM (.dct xs) = ret (xs.map fun z => keyP z.1) := (rfl)
@[simp] theorem list_dct (xs : List (Key × PV)) : bltM .list [.dct xs] = ret (.lst (xs.map fun z => keyP z.1)) := (rfl)
@[simp] theorem dict_dct (xs : List (Key × PV)) : bltM .dict [.dct xs] = ret (.dct xs) := (rfl)
@[simp] theorem dict_lst (xs : List PV) : bltM .dict [.lst xs] = @bnd _ _ (ofO (prsOf xs)) ⟨fun kvs => ret (.dct (mergeP [] kvs))⟩ := (rfl)
@[simp] theorem prsOf_nil : prsOf [] = some [] := (rfl)
theorem prsOf_map {α : Type} (k : α → Key) (v : α → PV) : ∀ ts : List α, prsOf (ts.map fun t => .tup [keyP (k t), v t]) = some (ts.map fun t => (k t, v t))
  | [] => rfl
  | t :: ts => by
    have e : keyO (keyP (k t)) = some (k t) := by cases k t <;> rfl
    simp only [List.map_cons, prsOf, e, Option.bind_some, prsOf_map k v ts, Option.map_some]
@[simp] theorem idx_dI (xs : List (Key × PV)) (i : Int) : idxM (.dct xs) (.int i) = ofO (dg xs (.inl i)) := (rfl)
@[simp] theorem idx_dW (xs : List (Key × PV)) (i : Str) : idxM (.dct xs) (.str i) = ofO (dg xs (.inr i)) := (rfl)
@[simp] theorem cmp_inD (p : PV) (xs : List (Key × PV)) : cmpM .isin p (.dct xs) = @bnd _ _ (keyM p) ⟨fun k => ret (dg xs k).isSome⟩ := by cases p <;> rfl
@[simp] theorem cmp_ninD (p : PV) (xs : List (Key × PV)) : cmpM .nin p (.dct xs) = @bnd _ _ (keyM p) ⟨fun k => ret (!(dg xs k).isSome)⟩ := by cases p <;> rfl
@[simp] theorem asOwnM_t (xs : List PV) : asOwnM true (.lst xs) = ret (.ol xs) := (rfl)
@[simp] theorem negM_i (i : Int) : negM (.int i) = ret (.int (-i)) := (rfl)
@[simp] theorem blM_b (b : Bool) : blM (.bl b) = ret b := (rfl)
@[simp] theorem fnM_f (k : Nat) : fnM (.fn k) = ret k := (rfl)
@[simp] theorem rng3_i (i j c : Int) : rng3M (.int i) (.int j) (.int c) = req (c ≠ 0 ∧ -1000 ≤ c ∧ c ≤ 1000 ∧ -(2 ^ 30) ≤ i ∧ i < 2 ^ 30 ∧ -(2 ^ 30) ≤ j ∧ j < 2 ^ 30) (ret (rngC i c (cntC i j c))) := (rfl)
@[simp] theorem trg_i (m : Bool) (i j : Int) : trgM m (.int i) (.int j) = req (smallI i ∧ smallI j ∧ (j - i).toNat ≤ 16777216) (ret (trgV m (rngL i (j - i).toNat))) := (rfl)
@[simp] theorem trgV_t (xs : List PV) : trgV true xs = .tup xs := (rfl)
@[simp] theorem trgV_l (xs : List PV) : trgV false xs = .lst xs := (rfl)
@[simp] theorem pop_i (ys : List PV) (k : Int) : popM ys (.int k) = req (smallI k) (@bnd _ _ (ofO (ixN ys.length k)) ⟨fun m => @bnd _ _ (ofO ys[m]?) ⟨fun y => ret (y, ys.eraseIdx m)⟩⟩) := (rfl)
@[simp] theorem last_a (ys : List PV) (y : PV) : lastM (ys ++ [y]) = ret (y, ys) := by
  simp [lastM]
  rfl
@[simp] theorem rng1_i (i : Int) : rng1M (.int i) = req (smallI i) (ret (rngL 0 i.toNat)) := (rfl)
@[simp] theorem rng2_i (i j : Int) : rng2M (.int i) (.int j) = req (smallI i ∧ smallI j) (ret (rngL i (j - i).toNat)) := (rfl)
@[simp] theorem zip_l (xs ys : List PV) : zipM (.lst xs) (.lst ys) = ret (zipL xs ys) := (rfl)
@[simp] theorem zip_t (xs ys : List PV) : zipM (.tup xs) (.tup ys) = ret (zipL xs ys) := (rfl)
@[simp] theorem rev_l (xs : List PV) : revM (.lst xs) = ret (.lst xs.reverse) := (rfl)
@[simp] theorem rev_t (xs : List PV) : revM (.tup xs) = ret (.tup xs.reverse) := (rfl)
@[simp] theorem zip_lt (xs ys : List PV) : zipM (.lst xs) (.tup ys) = ret (zipL xs ys) := (rfl)
@[simp] theorem zip_tl (xs ys : List PV) : zipM (.tup xs) (.lst ys) = ret (zipL xs ys) := (rfl)
@[simp] theorem tg_nm (i : Nat) (p : PV) (ρ : Env') : (tgM (.nm i)).one p ρ = ret (ρ.set i (.fz p)) := (rfl)
@[simp] theorem tg_tp (ts : Tg) (xs : List PV) (ρ : Env') : (tgM (.tp ts)).one (.tup xs) ρ = (tgM ts).many xs ρ := (rfl)
@[simp] theorem tg_nil (ρ : Env') : (tgM .nil).many [] ρ = ret ρ := (rfl)
@[simp] theorem tg_cons (a b : Tg) (x : PV) (xs : List PV) (ρ : Env') : (tgM (.cons a b)).many (x :: xs) ρ = @bnd _ _ ((tgM a).one x ρ) ⟨fun ρ' => (tgM b).many xs ρ'⟩ := (rfl)
@[simp] theorem lstM_s (xs : List PV) : lstM (.lst xs) = ret xs := (rfl)
@[simp] theorem truth_non : truthM .non = ret false := (rfl)
@[simp] theorem truth_bl (b : Bool) : truthM (.bl b) = ret b := (rfl)
@[simp] theorem truth_int (i : Int) : truthM (.int i) = ret (i != 0) := (rfl)
@[simp] theorem truth_tup (xs : List PV) : truthM (.tup xs) = ret (!xs.isEmpty) := (rfl)
@[simp] theorem truth_lst (xs : List PV) : truthM (.lst xs) = ret (!xs.isEmpty) := (rfl)
@[simp] theorem items_tup (xs : List PV) : itemsM (.tup xs) = ret xs := (rfl)
@[simp] theorem items_lst (xs : List PV) : itemsM (.lst xs) = ret xs := (rfl)
@[simp] theorem bin_add (i j : Int) : binM .add (.int i) (.int j) = ret (.int (i + j)) := (rfl)
@[simp] theorem bin_sub (i j : Int) : binM .sub (.int i) (.int j) = ret (.int (i - j)) := (rfl)
@[simp] theorem bin_mul (i j : Int) : binM .mul (.int i) (.int j) = req (IntMulOk i j) (ret (.int (i * j))) := (rfl)
@[simp] theorem bin_fdv (i j : Int) : binM .fdv (.int i) (.int j) = req (j ≠ 0 ∧ j.natAbs.log2 < 9000) (ret (.int (i.fdiv j))) := (rfl)
@[simp] theorem bin_mod (i j : Int) : binM .mod (.int i) (.int j) = req (j ≠ 0) (ret (.int (i.fmod j))) := (rfl)
@[simp] theorem bin_pow (i j : Int) : binM .pow (.int i) (.int j) = req (CPow i j) (ret (.int (i ^ j.toNat))) := (rfl)
@[simp] theorem bin_addL (xs ys : List PV) : binM .add (.lst xs) (.lst ys) = req (xs.length + ys.length ≤ sizeLine) (ret (.lst (xs ++ ys))) := (rfl)
@[simp] theorem bin_addT (xs ys : List PV) : binM .add (.tup xs) (.tup ys) = req (xs.length + ys.length ≤ sizeLine) (ret (.tup (xs ++ ys))) := (rfl)
@[simp] theorem bin_mulL (xs : List PV) (j : Int) : binM .mul (.lst xs) (.int j) = req (j < 2 ^ 40 ∧ -(2 ^ 40) < j ∧ xs.length * j.toNat ≤ sizeLine) (ret (.lst (List.replicate j.toNat xs).flatten)) := (rfl)
@[simp] theorem bin_mulT (xs : List PV) (j : Int) : binM .mul (.tup xs) (.int j) = req (xs ≠ [] ∧ (-1000 ≤ j ∧ j ≤ 1000) ∧ xs.length ≤ 1000) (ret (.tup (List.replicate j.toNat xs).flatten)) := (rfl)
@[simp] theorem aug_i (op : Bop) (i j : Int) : augM op (.int i) (.int j) = binM op (.int i) (.int j) := (rfl)
@[simp] theorem ext_l (xs ys : List PV) : extM xs (.lst ys) = req (xs.length + ys.length ≤ sizeLine) (ret (xs ++ ys)) := (rfl)
@[simp] theorem sto_i (xs : List PV) (i : Int) (p : PV) : stoM xs (.int i) p = @bnd _ _ (ofO (ixN xs.length i)) ⟨fun j => ret (xs.set j p)⟩ := (rfl)
@[simp] theorem ofO_s {α : Type} (a : α) : ofO (some a) = ret a := (rfl)
@[simp] theorem shp_int {i : Int} : (PV.int i).shp = true := shp_of rfl
@[simp] theorem shp_bl {i : Bool} : (PV.bl i).shp = true := shp_of rfl
@[simp] theorem shp_non : PV.non.shp = true := shp_of rfl
@[simp] theorem shp_str {s : Str} : ((PV.str s).shp = true) = (PyData.strOk s = true) := by
  refine propext ⟨fun h => ?_, fun h => shp_of h⟩
  simpa [PV.shp, SeqAt.shaped, PV.plain, PV.data, PyData.canLay0, PyData.depth] using h
@[simp] theorem shp_tup {xs : List PV} (h : PV.shs 63 xs = true) : ((PV.tup xs).shp = true) = True := shp_ok h
@[simp] theorem shp_lst {xs : List PV} (h : PV.shs 63 xs = true) : ((PV.lst xs).shp = true) = True := shp_ok h
@[simp] theorem cmp_eq (p q : PV) : cmpM .eq p q = req (p.shp = true ∧ q.shp = true) (ret (p.eqv q)) := (rfl)
@[simp] theorem cmp_ne (p q : PV) : cmpM .ne p q = req (p.shp = true ∧ q.shp = true) (ret (!p.eqv q)) := (rfl)
@[simp] theorem cmp_lt (i j : Int) : cmpM .lt (.int i) (.int j) = ret (decide (i < j)) := (rfl)
@[simp] theorem cmp_le (i j : Int) : cmpM .le (.int i) (.int j) = ret (decide (i ≤ j)) := (rfl)
@[simp] theorem cmp_gt (i j : Int) : cmpM .gt (.int i) (.int j) = ret (decide (j < i)) := (rfl)
@[simp] theorem cmp_ge (i j : Int) : cmpM .ge (.int i) (.int j) = ret (decide (j ≤ i)) := (rfl)
@[simp] theorem cmp_is_nn : cmpM .is .non .non = ret true := (rfl)
@[simp] theorem cmp_nis_nn : cmpM .nis .non .non = ret false := (rfl)
@[simp] theorem cmp_is_bb (a b : Bool) : cmpM .is (.bl a) (.bl b) = ret (decide (a = b)) := (rfl)
@[simp] theorem cmp_nis_bb (a b : Bool) : cmpM .nis (.bl a) (.bl b) = ret (!decide (a = b)) := (rfl)
@[simp] theorem cmp_is_int (a : Int) : cmpM .is (.int a) .non = ret false := (rfl)
@[simp] theorem cmp_is_bl (a : Bool) : cmpM .is (.bl a) .non = ret false := (rfl)
@[simp] theorem cmp_is_str (a : Str) : cmpM .is (.str a) .non = ret false := (rfl)
@[simp] theorem cmp_is_tup (a : List PV) : cmpM .is (.tup a) .non = ret false := (rfl)
@[simp] theorem cmp_is_lst (a : List PV) : cmpM .is (.lst a) .non = ret false := (rfl)
@[simp] theorem cmp_nis_int (a : Int) : cmpM .nis (.int a) .non = ret true := (rfl)
@[simp] theorem cmp_nis_bl (a : Bool) : cmpM .nis (.bl a) .non = ret true := (rfl)
@[simp] theorem cmp_nis_str (a : Str) : cmpM .nis (.str a) .non = ret true := (rfl)
@[simp] theorem cmp_nis_tup (a : List PV) : cmpM .nis (.tup a) .non = ret true := (rfl)
@[simp] theorem cmp_nis_lst (a : List PV) : cmpM .nis (.lst a) .non = ret true := (rfl)
@[simp] theorem cmp_inT (p : PV) (xs : List PV) : cmpM .isin p (.tup xs) = req (p.flat = true ∧ xs.all PV.flat = true) (ret (xs.any fun x => x.eqv p)) := by cases p <;> rfl
@[simp] theorem cmp_ninT (p : PV) (xs : List PV) : cmpM .nin p (.tup xs) = req (p.flat = true ∧ xs.all PV.flat = true) (ret (!xs.any fun x => x.eqv p)) := by cases p <;> rfl
@[simp] theorem cmp_inL (p : PV) (xs : List PV) : cmpM .isin p (.lst xs) = req (p.flat = true ∧ xs.all PV.flat = true) (ret (xs.any fun x => x.eqv p)) := by cases p <;> rfl
@[simp] theorem cmp_ninL (p : PV) (xs : List PV) : cmpM .nin p (.lst xs) = req (p.flat = true ∧ xs.all PV.flat = true) (ret (!xs.any fun x => x.eqv p)) := by cases p <;> rfl
@[simp] theorem flat_int (i : Int) : (PV.int i).flat = true := (rfl)
@[simp] theorem flat_bl (i : Bool) : (PV.bl i).flat = true := (rfl)
@[simp] theorem flat_str (i : Str) : (PV.str i).flat = true := (rfl)
@[simp] theorem flat_non : PV.non.flat = true := (rfl)
@[simp] theorem kn_int (i : Int) : (PV.int i).known = true := (rfl)
@[simp] theorem kn_bl (i : Bool) : (PV.bl i).known = true := (rfl)
@[simp] theorem kn_str (i : Str) : (PV.str i).known = true := (rfl)
@[simp] theorem kn_tup (i : List PV) : (PV.tup i).known = true := (rfl)
@[simp] theorem kn_lst (i : List PV) : (PV.lst i).known = true := (rfl)
@[simp] theorem kn_dct (i : List (Key × PV)) : (PV.dct i).known = true := (rfl)
@[simp] theorem kn_non : PV.non.known = true := (rfl)
@[simp] theorem ty_non (t : Ty) : PV.non.isTy t = false := (rfl)
@[simp] theorem ty_int (i : Int) (t : Ty) : (PV.int i).isTy t = decide (t = .int) := by cases t <;> rfl
@[simp] theorem ty_bl (i : Bool) (t : Ty) : (PV.bl i).isTy t = decide (t = .int ∨ t = .bool) := by cases t <;> rfl
@[simp] theorem ty_str (i : Str) (t : Ty) : (PV.str i).isTy t = decide (t = .str) := by cases t <;> rfl
@[simp] theorem ty_tup (i : List PV) (t : Ty) : (PV.tup i).isTy t = decide (t = .tuple) := by cases t <;> rfl
@[simp] theorem ty_lst (i : List PV) (t : Ty) : (PV.lst i).isTy t = decide (t = .list) := by cases t <;> rfl
@[simp] theorem ty_dct (i : List (Key × PV)) (t : Ty) : (PV.dct i).isTy t = decide (t = .dict) := by cases t <;> rfl
@[simp] theorem idx_t (xs : List PV) (i : Int) : idxM (.tup xs) (.int i) = ofO (atI xs i) := (rfl)
@[simp] theorem idx_l (xs : List PV) (i : Int) : idxM (.lst xs) (.int i) = ofO (atI xs i) := (rfl)
@[simp] theorem atI_0 {α : Type} {x : α} {xs : List α} : atI (x :: xs) 0 = some x := by
  have := atI_nat (xs := x :: xs) (j := 0) (v := x) rfl
  simpa using this
@[simp] theorem atI_1 {α : Type} {x y : α} {xs : List α} : atI (x :: y :: xs) 1 = some y := by
  have := atI_nat (xs := x :: y :: xs) (j := 1) (v := y) rfl
  simpa using this
@[simp] theorem atI_2 {α : Type} {x y z : α} {xs : List α} : atI (x :: y :: z :: xs) 2 = some z := by
  have := atI_nat (xs := x :: y :: z :: xs) (j := 2) (v := z) rfl
  simpa using this
@[simp] theorem atI_3 {α : Type} {x y z u : α} {xs : List α} : atI (x :: y :: z :: u :: xs) 3 = some u := by
  have := atI_nat (xs := x :: y :: z :: u :: xs) (j := 3) (v := u) rfl
  simpa using this
@[simp] theorem atI_m1 {α : Type} {xs : List α} {v : α} : atI (xs ++ [v]) (-1) = some v := L2.atI_last xs v
@[simp] theorem atI_map {α β : Type} {f : α → β} {xs : List α} {i : Int} : atI (xs.map f) i = (atI xs i).map f := by
  unfold atI
  simp
  rfl
@[simp] theorem len_t (xs : List PV) : bltM .len [.tup xs] = ret (.int xs.length) := (rfl)
@[simp] theorem len_l (xs : List PV) : bltM .len [.lst xs] = ret (.int xs.length) := (rfl)
@[simp] theorem len_d (xs : List (Key × PV)) : bltM .len [.dct xs] = ret (.int xs.length) := (rfl)
@[simp] theorem len_s (xs : List Int) : bltM .len [.scr xs] = ret (.int xs.length) := (rfl)
@[simp] theorem abs_i (i : Int) : bltM .abs [.int i] = ret (.int (i.natAbs : Int)) := (rfl)
@[simp] theorem int_i (i : Int) : bltM .int [.int i] = ret (.int i) := (rfl)
@[simp] theorem int_b (b : Bool) : bltM .int [.bl b] = ret (.int (if b then 1 else 0)) := (rfl)
@[simp] theorem tuple_l (xs : List PV) : bltM .tuple [.lst xs] = ret (.tup xs) := (rfl)
@[simp] theorem tuple_t (xs : List PV) : bltM .tuple [.tup xs] = ret (.tup xs) := (rfl)
@[simp] theorem list_t (xs : List PV) : bltM .list [.tup xs] = ret (.lst xs) := (rfl)
@[simp] theorem list_l (xs : List PV) : bltM .list [.lst xs] = ret (.lst xs) := (rfl)
@[simp] theorem min_2 (i j : Int) : bltM .min [.int i, .int j] = ret (.int (min i j)) := (rfl)
@[simp] theorem max_2 (i j : Int) : bltM .max [.int i, .int j] = ret (.int (max i j)) := (rfl)
@[simp] theorem intsOf_n : intsOf [] = some [] := (rfl)
@[simp] theorem intsOf_c (i : Int) (r : List PV) : intsOf (.int i :: r) = (intsOf r).map (i :: ·) := (rfl)
@[simp] theorem intsOf_map {α : Type} (g : α → Int) : ∀ ts : List α, intsOf (ts.map fun t => PV.int (g t)) = some (ts.map g)
  | [] => rfl
  | i :: ns => by
    simp only [List.map_cons, intsOf]
    rw [intsOf_map g]
    rfl
@[simp] theorem intsOf_id (ns : List Int) : intsOf (ns.map PV.int) = some ns := by
  have h := intsOf_map (fun i : Int => i) ns
  simpa using h
@[simp] theorem boolsOf_n : boolsOf [] = some [] := (rfl)
@[simp] theorem boolsOf_c (i : Bool) (r : List PV) : boolsOf (.bl i :: r) = (boolsOf r).map (i :: ·) := (rfl)
@[simp] theorem boolsOf_map {α : Type} (g : α → Bool) : ∀ ts : List α, boolsOf (ts.map fun t => PV.bl (g t)) = some (ts.map g)
  | [] => rfl
  | i :: ns => by
    simp only [List.map_cons, boolsOf]
    rw [boolsOf_map g]
    rfl
@[simp] theorem opt_map {α β : Type} (f : α → β) (a : α) : (some a).map f = some (f a) := (rfl)
@[simp] theorem sum_l (xs : List PV) : bltM .sum [.lst xs] = @bnd _ _ (ofO (intsOf xs)) ⟨fun ns => ret (.int ns.sum)⟩ := (rfl)
@[simp] theorem sum_t (xs : List PV) : bltM .sum [.tup xs] = @bnd _ _ (ofO (intsOf xs)) ⟨fun ns => ret (.int ns.sum)⟩ := (rfl)
@[simp] theorem all_l (xs : List PV) : bltM .all [.lst xs] = @bnd _ _ (ofO (boolsOf xs)) ⟨fun ns => ret (.bl (ns.all id))⟩ := (rfl)
@[simp] theorem any_l (xs : List PV) : bltM .any [.lst xs] = @bnd _ _ (ofO (boolsOf xs)) ⟨fun ns => ret (.bl (ns.any id))⟩ := (rfl)
@[simp] theorem min_l (xs : List PV) : bltM .min [.lst xs] = @bnd _ _ (ofO (intsOf xs)) ⟨fun ns => req (0 < ns.length) (ret (.int (minL ns)))⟩ := (rfl)
@[simp] theorem max_l (xs : List PV) : bltM .max [.lst xs] = @bnd _ _ (ofO (intsOf xs)) ⟨fun ns => req (0 < ns.length) (ret (.int (maxL ns)))⟩ := (rfl)
@[simp] theorem max_t (xs : List PV) : bltM .max [.tup xs] = @bnd _ _ (ofO (intsOf xs)) ⟨fun ns => req (0 < ns.length) (ret (.int (maxL ns)))⟩ := (rfl)
@[simp] theorem min_t (xs : List PV) : bltM .min [.tup xs] = @bnd _ _ (ofO (intsOf xs)) ⟨fun ns => req (0 < ns.length) (ret (.int (minL ns)))⟩ := (rfl)
@[simp] theorem sorted_d (xs : List (Key × PV)) : bltM .sorted [.dct xs] = @bnd _ _ (ofO (keysI xs)) ⟨fun ns => req (ns.length < 64) (ret (.lst ((isort ns).map .int)))⟩ := (rfl)
@[simp] theorem sorted_l (xs : List PV) : bltM .sorted [.lst xs] = srtM xs := (rfl)
@[simp] theorem sorted_t (xs : List PV) : bltM .sorted [.tup xs] = srtM xs := (rfl)
theorem srt_ints {xs : List PV} {ns : List Int} (h : intsOf xs = some ns) : srtM xs = ret (.lst ((isort ns).map .int)) := by
  unfold srtM
  rw [h]
theorem intsOf_mapI : ∀ ns : List Int, intsOf (ns.map .int) = some ns
  | [] => rfl
  | n :: ns => by simp [intsOf, intsOf_mapI ns]
@[simp] theorem srt_I (ns : List Int) : srtM (ns.map .int) = ret (.lst ((isort ns).map .int)) := srt_ints (intsOf_mapI ns)
theorem pairsOf_map : ∀ ps : List (Int × Int), pairsOf (ps.map fun p => .tup [.int p.1, .int p.2]) = some ps
  | [] => rfl
  | p :: ps => by simp [pairsOf, pairsOf_map ps]
theorem srt_P (ps : List (Int × Int)) : srtM (ps.map fun p => .tup [.int p.1, .int p.2]) = ret (.lst ((psort ps).map fun p => .tup [.int p.1, .int p.2])) := by
  cases ps with
  | nil => simp [srtM, psort, isort, intsOf]
  | cons p ps =>
    unfold srtM
    rw [show intsOf ((p :: ps).map fun p => PV.tup [.int p.1, .int p.2]) = none from rfl, pairsOf_map]
    rfl
@[simp] theorem all_map {α : Type} (g : α → Bool) (ts : List α) : (ts.map g).all id = ts.all g := by simp [List.all_map]
@[simp] theorem any_map {α : Type} (g : α → Bool) (ts : List α) : (ts.map g).any id = ts.any g := by simp [List.any_map]
@[simp] theorem slc_t (xs : List PV) (lo hi : Option Int) : slcM (.tup xs) lo hi = ret (.tup (cutA xs lo hi)) := (rfl)
@[simp] theorem slc_l (xs : List PV) (lo hi : Option Int) : slcM (.lst xs) lo hi = ret (.lst (cutA xs lo hi)) := (rfl)
@[simp] theorem slc_s (xs : List Int) (lo hi : Option Int) : slcM (.scr xs) lo hi = ret (.lst ((cutA xs lo hi).map .int)) := (rfl)
@[simp] theorem cut_map {α β : Type} (f : α → β) (xs : List α) (lo hi : Option Int) : cutA (xs.map f) lo hi = (cutA xs lo hi).map f := by
  unfold cutA
  simp [List.map_drop, List.map_take]
@[simp] theorem part_0 : partM [] = ret none := (rfl)
@[simp] theorem part_1 (i : Int) : partM [.int i] = ret (some i) := (rfl)
@[simp] theorem repr_1 (p : PV) : bltM .repr [p] = req (p.plain = true ∧ p.data.showable = true ∧ p.data.depth ≤ 60 ∧ p.data.shown.length ≤ sizeLine) (ret (.str p.data.shown)) := (rfl)
@[simp] theorem str_1 (i : Int) : bltM .str [.int i] = req (i.natAbs.log2 < 1920) (ret (.str (toString i))) := (rfl)
@[simp] theorem isNil_nil : Ex.isNil .nil = true := (rfl)
@[simp] theorem wipe_nil (ρ : Env') : wipeR ρ [] = ρ := (rfl)
@[simp] theorem wipe_cons (ρ : Env') (v : Nat) (vs : List Nat) : wipeR ρ (v :: vs) = (wipeR ρ vs).set v .un := (rfl)
theorem zipL_map {α β : Type} (f : α → PV) (g : β → PV) : ∀ (xs : List α) (ys : List β), zipL (xs.map f) (ys.map g) = (xs.zip ys).map fun p => PV.tup [f p.1, g p.2]
  | [], _ => by simp [zipL]
  | x :: xs, [] => by simp [zipL]
  | x :: xs, y :: ys => by simp [zipL, zipL_map f g xs ys]
theorem enumL_map {α : Type} (f : α → PV) : ∀ (xs : List α) (k : Nat), enumL k (xs.map f) = (xs.zipIdx k).map fun p => PV.tup [.int (p.2 : Int), f p.1]
  | [], _ => rfl
  | x :: xs, k => by simp [enumL, enumL_map f xs (k + 1)]
theorem rngL_eq (lo : Int) (n : Nat) : rngL lo n = (List.range n).map fun (k : Nat) => PV.int (lo + (k : Int)) := rfl
theorem size_ok {n : Nat} (h : n ≤ 1000000) : n ≤ sizeLine := Nat.le_trans h (by decide)
theorem size_lt {n : Nat} (h : n ≤ 1000000) : n < sizeLine := Nat.lt_of_le_of_lt h (by decide)
@[simp] theorem szl : sizeLine = 16777216 := sizeLine_eq
theorem mulOk_l {i j : Int} (h1 : -(2 ^ 64) < i) (h2 : i < 2 ^ 64) : IntMulOk i j := CMul.ok (.inl ⟨h1, h2⟩)
theorem mulOk_r {i j : Int} (h1 : -(2 ^ 64) < j) (h2 : j < 2 ^ 64) : IntMulOk i j := CMul.ok (.inr ⟨h1, h2⟩)

/-! ### loops, comprehensions -/
@[irreducible] noncomputable def forL (S : MSig) (tg : Tg) (body : Sx) (items : List PV) (ρ : Env') : M Oc := loopM (tgM tg).one (evS S body) items ρ
@[irreducible] noncomputable def whlL (S : MSig) (c : Ex) (body : Sx) (n : Nat) (ρ : Env') : M Oc := whileM (ev S c).t (evS S body) n ρ
section
variable {S : MSig} {tg : Tg} {body : Sx} {c : Ex} {ρ : Env'}
theorem for_nil : forL S tg body [] ρ = ret (.nx ρ) := by
  unfold forL
  rfl
theorem for_cons (x : PV) (xs : List PV) : forL S tg body (x :: xs) ρ = @bnd _ _ ((tgM tg).one x ρ) ⟨fun ρ' => @bnd _ _ (evS S body ρ') ⟨(Oc.lp fun ρ2 => forL S tg body xs ρ2)⟩⟩ := by
  unfold forL
  rfl
theorem whl_succ (n : Nat) : whlL S c body (n + 1) ρ = @bnd _ _ ((ev S c).t ρ) ⟨fun k => if k = true then @bnd _ _ (evS S body ρ) ⟨Oc.lp fun ρ2 => whlL S c body n ρ2⟩ else ret (.nx ρ)⟩ := by
  unfold whlL
  rfl
end
@[irreducible] noncomputable def cmpL (S : MSig) (tg : Tg) (cnd elt : Ex) (ρ : Env') (items : List PV) : M (List PV) := compM (tgM tg).one (fun ρ' => if cnd.isNil = true then ret true else nox ((ev S cnd).t ρ')) (fun ρ' => nox ((ev S elt).e ρ')) ρ items []
@[irreducible] noncomputable def dcoL (S : MSig) (tg : Tg) (cnd ky vl : Ex) (ρ : Env') (items : List PV) (acc : List (Key × PV)) : M (List (Key × PV)) := dcoM (tgM tg).one (fun ρ' => if cnd.isNil = true then ret true else nox ((ev S cnd).t ρ')) (fun ρ' => nox ((ev S ky).e ρ')) (fun ρ' => nox ((ev S vl).e ρ')) ρ items acc
section
variable {S : MSig} {tg : Tg} {cnd ky vl : Ex} {ρ : Env'}
@[simp] theorem dcoL_nil (acc : List (Key × PV)) : dcoL S tg cnd ky vl ρ [] acc = ret acc := by
  unfold dcoL
  rfl
theorem dcoL_cons (x : PV) (xs : List PV) (acc : List (Key × PV)) : dcoL S tg cnd ky vl ρ (x :: xs) acc = @bnd _ _ ((tgM tg).one x ρ) ⟨fun ρ' => @bnd _ _ (if cnd.isNil = true then ret true else nox ((ev S cnd).t ρ')) ⟨fun b => if b = true then @bnd _ _ (nox ((ev S ky).e ρ')) ⟨fun y => @bnd _ _ (keyM y) ⟨fun k => @bnd _ _ (nox ((ev S vl).e ρ')) ⟨fun z => req (acc.length < sizeLine) (dcoL S tg cnd ky vl ρ xs (dp acc k z))⟩⟩⟩ else dcoL S tg cnd ky vl ρ xs acc⟩⟩ := by
  unfold dcoL
  rfl
end
section
variable {S : MSig} {tg : Tg} {cnd elt : Ex} {ρ : Env'}
/-- an item -/
noncomputable def cmp1 (S : MSig) (tg : Tg) (elt : Ex) (ρ : Env') (x : PV) : M PV := @bnd _ _ ((tgM tg).one x ρ) ⟨fun ρ' => nox ((ev S elt).e ρ')⟩
/-- an item, with a test -/
noncomputable def cmp2 (S : MSig) (tg : Tg) (cnd elt : Ex) (ρ : Env') (x : PV) : M (Option PV) := @bnd _ _ ((tgM tg).one x ρ) ⟨fun ρ' => @bnd _ _ (nox ((ev S cnd).t ρ')) ⟨fun b => if b = true then @bnd _ _ (nox ((ev S elt).e ρ')) ⟨fun y => ret (some y)⟩ else ret none⟩⟩
theorem compM_map {α : Type} {one : PV → Env' → M Env'} {e : Env' → M PV} {f : α → PV} {g : α → PV} : ∀ (ts : List α) (acc : List PV), (∀ t, t ∈ ts → bind (one (f t) ρ) e = ret (g t)) → acc.length + ts.length ≤ 1000000 →
    compM one (fun _ => ret true) e ρ (ts.map f) acc = ret (acc ++ ts.map g)
  | [], acc, _, _ => by simp [compM]
  | t :: ts, acc, h, hs => by
    simp only [List.length_cons] at hs
    have h1 := h t List.mem_cons_self
    simp only [List.map_cons, compM, M.bind, if_true]
    rw [← bind_assoc (k := e), h1]
    simp only [M.bind]
    rw [req_of (size_lt (by omega)), compM_map ts _ (fun u hu => h u (List.mem_cons_of_mem _ hu)) (by rw [List.length_append, List.length_singleton]; omega)]
    simp
theorem cmpL_map {α : Type} {f : α → PV} {ts : List α} (g : α → PV) (h : ∀ t, t ∈ ts → cmp1 S tg elt ρ (f t) = ret (g t)) (hs : ts.length ≤ 1000000) : cmpL S tg .nil elt ρ (ts.map f) = ret (ts.map g) := by
  unfold cmpL
  have e : (fun ρ' : Env' => if Ex.nil.isNil = true then ret true else nox ((ev S .nil).t ρ')) = fun _ => ret true := rfl
  have h2 : ∀ t, t ∈ ts → bind ((tgM tg).one (f t) ρ) (fun ρ' => nox ((ev S elt).e ρ')) = ret (g t) := h
  rw [e, compM_map ts [] h2 (by simpa using hs)]
  simp
theorem compM_fil {α : Type} {one : PV → Env' → M Env'} {d : Env' → M Bool} {e : Env' → M PV} {f : α → PV} {c : α → Bool} {g : α → PV} : ∀ (ts : List α) (acc : List PV), (∀ t, t ∈ ts → (bind (one (f t) ρ) fun ρ' => bind (d ρ') fun b => if b = true then bind (e ρ') fun y => ret (some y) else ret none) = ret (if c t = true then some (g t) else none)) → acc.length + ts.length ≤ 1000000 →
    compM one d e ρ (ts.map f) acc = ret (acc ++ (ts.filter c).map g)
  | [], acc, _, _ => by simp [compM]
  | t :: ts, acc, h, hs => by
    simp only [List.length_cons] at hs
    have h1 := h t List.mem_cons_self
    have key : ∀ k1 : PV → M (List PV), ∀ k2 : M (List PV), (bind (one (f t) ρ) fun ρ' => bind (d ρ') fun b => if b = true then bind (e ρ') k1 else k2) = bind (bind (one (f t) ρ) fun ρ' => bind (d ρ') fun b => if b = true then bind (e ρ') fun y => ret (some y) else ret none) fun o => match o with | some y => k1 y | none => k2 := fun k1 k2 => by
      rw [bind_assoc]
      congr 1
      funext ρ'
      rw [bind_assoc]
      congr 1
      funext b
      cases b with
      | true =>
        simp only [if_true]
        rw [bind_assoc]
        rfl
      | false => rfl
    simp only [List.map_cons, compM]
    rw [key, h1]
    cases hc : c t with
    | true =>
      simp only [M.bind, if_true]
      rw [req_of (size_lt (by omega)), compM_fil ts _ (fun u hu => h u (List.mem_cons_of_mem _ hu)) (by rw [List.length_append, List.length_singleton]; omega)]
      simp [hc]
    | false =>
      rw [if_neg (by simp)]
      simp only [M.bind]
      rw [compM_fil ts _ (fun u hu => h u (List.mem_cons_of_mem _ hu)) (by omega)]
      simp [hc]
theorem cmpL_fil {α : Type} {f : α → PV} {ts : List α} (c : α → Bool) (g : α → PV) (hn : cnd.isNil = false) (h : ∀ t, t ∈ ts → cmp2 S tg cnd elt ρ (f t) = ret (if c t = true then some (g t) else none)) (hs : ts.length ≤ 1000000) :
    cmpL S tg cnd elt ρ (ts.map f) = ret ((ts.filter c).map g) := by
  unfold cmpL
  simp only [hn]
  have e := compM_fil (one := (tgM tg).one) (d := fun ρ' => if false = true then ret true else nox ((ev S cnd).t ρ')) (e := fun ρ' => nox ((ev S elt).e ρ')) (ρ := ρ) ts [] h (by simpa using hs)
  rw [e]
  simp
theorem compM_any {α β : Type} {one : PV → Env' → M Env'} {e : Env' → M PV} {f : α → PV} {P : β → Prop} {g : β → PV} {E : Exn → Prop} : ∀ {ts : List α} {acc : List PV} {Q : List PV → Prop},
    (∀ t, t ∈ ts → ∀ R : PV → Prop, (∀ b, P b → R (g b)) → (bind (one (f t) ρ) e).wp R E) → acc.length + ts.length ≤ 1000000 → (∀ bs : List β, bs.length = ts.length → (∀ b, b ∈ bs → P b) → Q (acc ++ bs.map g)) →
    (compM one (fun _ => ret true) e ρ (ts.map f) acc).wp Q E
  | [], acc, Q, _, _, hq => by
    have h := hq [] rfl (fun b h => by cases h)
    simpa [compM] using h
  | t :: ts, acc, Q, h, hs, hq => by
    simp only [List.map_cons, compM, M.bind, if_true]
    simp only [List.length_cons] at hs
    rw [← bind_assoc (k := e), wp_bind]
    refine h t List.mem_cons_self _ fun b hb => wp_req.mpr ⟨size_lt (by omega), ?_⟩
    refine compM_any (P := P) (g := g) (fun u hu => h u (List.mem_cons_of_mem _ hu)) ?_ fun bs hl hbs => ?_
    · rw [List.length_append, List.length_singleton]
      omega
    · have z := hq (b :: bs) (by simp [hl]) (fun c hc => by
        rcases List.mem_cons.mp hc with rfl | hc
        · exact hb
        · exact hbs c hc)
      simpa using z
theorem cmpL_any {α β : Type} {f : α → PV} {ts : List α} {P : β → Prop} {g : β → PV} {E : Exn → Prop} {Q : List PV → Prop} (h : ∀ t, t ∈ ts → ∀ R : PV → Prop, (∀ b, P b → R (g b)) → (cmp1 S tg elt ρ (f t)).wp R E) (hs : ts.length ≤ 1000000)
    (hq : ∀ bs : List β, bs.length = ts.length → (∀ b, b ∈ bs → P b) → Q (bs.map g)) : (cmpL S tg .nil elt ρ (ts.map f)).wp Q E := by
  unfold cmpL
  have e : (fun ρ' : Env' => if Ex.nil.isNil = true then ret true else nox ((ev S .nil).t ρ')) = fun _ => ret true := rfl
  rw [e]
  exact compM_any h (by simpa using hs) (fun bs hl hb => by simpa using hq bs hl hb)
end
/-- a contract, for draws: whatever comes is one of these -/
def Any {α β : Type} (m : M α) (P : β → Prop) (g : β → α) : Prop := ∀ (Q : α → Prop) (E : Exn → Prop), (∀ b, P b → Q (g b)) → m.wp Q E
theorem nox_wp {α : Type} {Q : α → Prop} {E : Exn → Prop} : ∀ m : M α, m.wp Q (fun _ => False) → (nox m).wp Q E
  | .ret a, h => h
  | .exn x, h => h
  | .bad, h => h
  | .pick n f, h => ⟨h.1, h.2.1, fun r h1 h2 => nox_wp (f r) (h.2.2 r h1 h2)⟩
  | .hand f, h => fun a c => nox_wp (f a c) (h a c)
theorem Any.nox {α β : Type} {m : M α} {P : β → Prop} {g : β → α} (h : Any m P g) : Any (nox m) P g := fun Q E q => nox_wp m (h Q _ q)
section
variable {S : MSig} {ρ : Env'}
@[simp] theorem ev_var_e (i : Nat) : (ev S (.var i)).e ρ = varM ρ[i]? := (rfl)
@[simp] theorem ev_var_o (i : Nat) : (ev S (.var i)).o ρ = varM ρ[i]? := (rfl)
@[simp] theorem ev_var_t (i : Nat) : (ev S (.var i)).t ρ = @bnd _ _ (varM ρ[i]?) ⟨truthM⟩ := (rfl)
@[simp] theorem ev_var_s (i : Nat) : (ev S (.var i)).s false ρ = @bnd _ _ (varM ρ[i]?) ⟨fun p => ret (.fz p)⟩ := (rfl)
@[simp] theorem ev_var_i (i : Nat) : (ev S (.var i)).i ρ = @bnd _ _ (varM ρ[i]?) ⟨itemsM⟩ := (rfl)
@[simp] theorem ev_var_f (i : Nat) : (ev S (.var i)).f ρ = @bnd _ _ (varM ρ[i]?) ⟨itemsM⟩ := (rfl)
@[simp] theorem ev_non_e  : (ev S .non).e ρ = ret .non := (rfl)
@[simp] theorem ev_non_o  : (ev S .non).o ρ = ret .non := (rfl)
@[simp] theorem ev_non_t  : (ev S .non).t ρ = @bnd _ _ (ret .non) ⟨truthM⟩ := (rfl)
@[simp] theorem ev_non_s  : (ev S .non).s false ρ = @bnd _ _ (ret .non) ⟨fun p => ret (.fz p)⟩ := (rfl)
@[simp] theorem ev_non_i  : (ev S .non).i ρ = @bnd _ _ (ret .non) ⟨itemsM⟩ := (rfl)
@[simp] theorem ev_non_f  : (ev S .non).f ρ = @bnd _ _ (ret .non) ⟨itemsM⟩ := (rfl)
@[simp] theorem ev_tt_e (b : Bool) : (ev S (.tt b)).e ρ = ret (.bl b) := (rfl)
@[simp] theorem ev_tt_o (b : Bool) : (ev S (.tt b)).o ρ = ret (.bl b) := (rfl)
@[simp] theorem ev_tt_t (b : Bool) : (ev S (.tt b)).t ρ = @bnd _ _ (ret (.bl b)) ⟨truthM⟩ := (rfl)
@[simp] theorem ev_tt_s (b : Bool) : (ev S (.tt b)).s false ρ = @bnd _ _ (ret (.bl b)) ⟨fun p => ret (.fz p)⟩ := (rfl)
@[simp] theorem ev_tt_i (b : Bool) : (ev S (.tt b)).i ρ = @bnd _ _ (ret (.bl b)) ⟨itemsM⟩ := (rfl)
@[simp] theorem ev_tt_f (b : Bool) : (ev S (.tt b)).f ρ = @bnd _ _ (ret (.bl b)) ⟨itemsM⟩ := (rfl)
@[simp] theorem ev_int_e (z : Int) : (ev S (.int z)).e ρ = ret (.int z) := (rfl)
@[simp] theorem ev_int_o (z : Int) : (ev S (.int z)).o ρ = ret (.int z) := (rfl)
@[simp] theorem ev_int_t (z : Int) : (ev S (.int z)).t ρ = @bnd _ _ (ret (.int z)) ⟨truthM⟩ := (rfl)
@[simp] theorem ev_int_s (z : Int) : (ev S (.int z)).s false ρ = @bnd _ _ (ret (.int z)) ⟨fun p => ret (.fz p)⟩ := (rfl)
@[simp] theorem ev_int_i (z : Int) : (ev S (.int z)).i ρ = @bnd _ _ (ret (.int z)) ⟨itemsM⟩ := (rfl)
@[simp] theorem ev_int_f (z : Int) : (ev S (.int z)).f ρ = @bnd _ _ (ret (.int z)) ⟨itemsM⟩ := (rfl)
@[simp] theorem ev_str_e (w : Str) : (ev S (.str w)).e ρ = ret (.str w) := (rfl)
@[simp] theorem ev_str_o (w : Str) : (ev S (.str w)).o ρ = ret (.str w) := (rfl)
@[simp] theorem ev_str_t (w : Str) : (ev S (.str w)).t ρ = @bnd _ _ (ret (.str w)) ⟨truthM⟩ := (rfl)
@[simp] theorem ev_str_s (w : Str) : (ev S (.str w)).s false ρ = @bnd _ _ (ret (.str w)) ⟨fun p => ret (.fz p)⟩ := (rfl)
@[simp] theorem ev_str_i (w : Str) : (ev S (.str w)).i ρ = @bnd _ _ (ret (.str w)) ⟨itemsM⟩ := (rfl)
@[simp] theorem ev_str_f (w : Str) : (ev S (.str w)).f ρ = @bnd _ _ (ret (.str w)) ⟨itemsM⟩ := (rfl)
@[simp] theorem ev_con_e (k : Nat) : (ev S (.con k)).e ρ = ret (S.cn k) := (rfl)
@[simp] theorem ev_con_o (k : Nat) : (ev S (.con k)).o ρ = ret (S.cn k) := (rfl)
@[simp] theorem ev_con_t (k : Nat) : (ev S (.con k)).t ρ = @bnd _ _ (ret (S.cn k)) ⟨truthM⟩ := (rfl)
@[simp] theorem ev_con_s (k : Nat) : (ev S (.con k)).s false ρ = @bnd _ _ (ret (S.cn k)) ⟨fun p => ret (.fz p)⟩ := (rfl)
@[simp] theorem ev_con_i (k : Nat) : (ev S (.con k)).i ρ = @bnd _ _ (ret (S.cn k)) ⟨itemsM⟩ := (rfl)
@[simp] theorem ev_con_f (k : Nat) : (ev S (.con k)).f ρ = @bnd _ _ (ret (S.cn k)) ⟨itemsM⟩ := (rfl)
@[simp] theorem ev_fnv_e (k : Nat) : (ev S (.fnv k)).e ρ = ret (.fn k) := (rfl)
@[simp] theorem ev_fnv_o (k : Nat) : (ev S (.fnv k)).o ρ = ret (.fn k) := (rfl)
@[simp] theorem ev_fnv_t (k : Nat) : (ev S (.fnv k)).t ρ = @bnd _ _ (ret (.fn k)) ⟨truthM⟩ := (rfl)
@[simp] theorem ev_fnv_s (k : Nat) : (ev S (.fnv k)).s false ρ = @bnd _ _ (ret (.fn k)) ⟨fun p => ret (.fz p)⟩ := (rfl)
@[simp] theorem ev_fnv_i (k : Nat) : (ev S (.fnv k)).i ρ = @bnd _ _ (ret (.fn k)) ⟨itemsM⟩ := (rfl)
@[simp] theorem ev_fnv_f (k : Nat) : (ev S (.fnv k)).f ρ = @bnd _ _ (ret (.fn k)) ⟨itemsM⟩ := (rfl)
@[simp] theorem ev_neg_e (a : Ex) : (ev S (.neg a)).e ρ = @bnd _ _ ((ev S a).e ρ) ⟨negM⟩ := (rfl)
@[simp] theorem ev_neg_o (a : Ex) : (ev S (.neg a)).o ρ = @bnd _ _ ((ev S a).e ρ) ⟨negM⟩ := (rfl)
@[simp] theorem ev_neg_t (a : Ex) : (ev S (.neg a)).t ρ = @bnd _ _ (@bnd _ _ ((ev S a).e ρ) ⟨negM⟩) ⟨truthM⟩ := (rfl)
@[simp] theorem ev_neg_s (a : Ex) : (ev S (.neg a)).s false ρ = @bnd _ _ (@bnd _ _ ((ev S a).e ρ) ⟨negM⟩) ⟨fun p => ret (.fz p)⟩ := (rfl)
@[simp] theorem ev_neg_i (a : Ex) : (ev S (.neg a)).i ρ = @bnd _ _ (@bnd _ _ ((ev S a).e ρ) ⟨negM⟩) ⟨itemsM⟩ := (rfl)
@[simp] theorem ev_neg_f (a : Ex) : (ev S (.neg a)).f ρ = @bnd _ _ (@bnd _ _ ((ev S a).e ρ) ⟨negM⟩) ⟨itemsM⟩ := (rfl)
@[simp] theorem ev_not_e (a : Ex) : (ev S (.not a)).e ρ = @bnd _ _ ((ev S a).o ρ) ⟨fun p => @bnd _ _ (truthM p) ⟨fun b => ret (.bl (!b))⟩⟩ := (rfl)
@[simp] theorem ev_not_o (a : Ex) : (ev S (.not a)).o ρ = @bnd _ _ ((ev S a).o ρ) ⟨fun p => @bnd _ _ (truthM p) ⟨fun b => ret (.bl (!b))⟩⟩ := (rfl)
@[simp] theorem ev_not_t (a : Ex) : (ev S (.not a)).t ρ = @bnd _ _ ((ev S a).t ρ) ⟨fun b => ret (!b)⟩ := (rfl)
@[simp] theorem ev_not_s (a : Ex) : (ev S (.not a)).s false ρ = @bnd _ _ (@bnd _ _ ((ev S a).o ρ) ⟨fun p => @bnd _ _ (truthM p) ⟨fun b => ret (.bl (!b))⟩⟩) ⟨fun p => ret (.fz p)⟩ := (rfl)
@[simp] theorem ev_bin_e (op : Bop) (a b : Ex) : (ev S (.bin op a b)).e ρ = @bnd _ _ ((ev S a).o ρ) ⟨fun p => @bnd _ _ ((ev S b).o ρ) ⟨fun q => binM op p q⟩⟩ := (rfl)
@[simp] theorem ev_bin_o (op : Bop) (a b : Ex) : (ev S (.bin op a b)).o ρ = @bnd _ _ ((ev S a).o ρ) ⟨fun p => @bnd _ _ ((ev S b).o ρ) ⟨fun q => binM op p q⟩⟩ := (rfl)
@[simp] theorem ev_bin_t (op : Bop) (a b : Ex) : (ev S (.bin op a b)).t ρ = @bnd _ _ (@bnd _ _ ((ev S a).o ρ) ⟨fun p => @bnd _ _ ((ev S b).o ρ) ⟨fun q => binM op p q⟩⟩) ⟨truthM⟩ := (rfl)
@[simp] theorem ev_bin_s (op : Bop) (a b : Ex) (m : Bool) : (ev S (.bin op a b)).s m ρ = @bnd _ _ (@bnd _ _ ((ev S a).o ρ) ⟨fun p => @bnd _ _ ((ev S b).o ρ) ⟨fun q => binM op p q⟩⟩) ⟨(asOwnM m)⟩ := (rfl)
@[simp] theorem ev_bin_i (op : Bop) (a b : Ex) : (ev S (.bin op a b)).i ρ = @bnd _ _ (@bnd _ _ ((ev S a).o ρ) ⟨fun p => @bnd _ _ ((ev S b).o ρ) ⟨fun q => binM op p q⟩⟩) ⟨itemsM⟩ := (rfl)
@[simp] theorem ev_bin_f (op : Bop) (a b : Ex) : (ev S (.bin op a b)).f ρ = @bnd _ _ (@bnd _ _ ((ev S a).o ρ) ⟨fun p => @bnd _ _ ((ev S b).o ρ) ⟨fun q => binM op p q⟩⟩) ⟨itemsM⟩ := (rfl)
@[simp] theorem ev_cmp_e (op : Cop) (a b : Ex) : (ev S (.cmp op a b)).e ρ = @bnd _ _ ((ev S a).o ρ) ⟨fun p => @bnd _ _ ((ev S b).o ρ) ⟨fun q => @bnd _ _ (cmpM op p q) ⟨fun c => ret (.bl c)⟩⟩⟩ := (rfl)
@[simp] theorem ev_cmp_o (op : Cop) (a b : Ex) : (ev S (.cmp op a b)).o ρ = @bnd _ _ ((ev S a).o ρ) ⟨fun p => @bnd _ _ ((ev S b).o ρ) ⟨fun q => @bnd _ _ (cmpM op p q) ⟨fun c => ret (.bl c)⟩⟩⟩ := (rfl)
@[simp] theorem ev_cmp_t (op : Cop) (a b : Ex) : (ev S (.cmp op a b)).t ρ = @bnd _ _ ((ev S a).o ρ) ⟨fun p => @bnd _ _ ((ev S b).o ρ) ⟨fun q => cmpM op p q⟩⟩ := (rfl)
@[simp] theorem ev_cmp_s (op : Cop) (a b : Ex) : (ev S (.cmp op a b)).s false ρ = @bnd _ _ (@bnd _ _ ((ev S a).o ρ) ⟨fun p => @bnd _ _ ((ev S b).o ρ) ⟨fun q => @bnd _ _ (cmpM op p q) ⟨fun c => ret (.bl c)⟩⟩⟩) ⟨fun p => ret (.fz p)⟩ := (rfl)
@[simp] theorem ev_cmp2_e (o1 o2 : Cop) (a b c : Ex) : (ev S (.cmp2 o1 o2 a b c)).e ρ = @bnd _ _ ((ev S (.cmp2 o1 o2 a b c)).t ρ) ⟨fun k => ret (.bl k)⟩ := (rfl)
@[simp] theorem ev_cmp2_o (o1 o2 : Cop) (a b c : Ex) : (ev S (.cmp2 o1 o2 a b c)).o ρ = @bnd _ _ ((ev S (.cmp2 o1 o2 a b c)).t ρ) ⟨fun k => ret (.bl k)⟩ := (rfl)
@[simp] theorem ev_cmp2_t (o1 o2 : Cop) (a b c : Ex) : (ev S (.cmp2 o1 o2 a b c)).t ρ = @bnd _ _ ((ev S a).o ρ) ⟨fun p => @bnd _ _ ((ev S b).o ρ) ⟨fun q => @bnd _ _ (cmpM o1 p q) ⟨fun k => if k = true then (@bnd _ _ ((ev S c).o ρ) ⟨fun r => cmpM o2 q r⟩) else ret false⟩⟩⟩ := (rfl)
@[simp] theorem ev_cmp2_s (o1 o2 : Cop) (a b c : Ex) : (ev S (.cmp2 o1 o2 a b c)).s false ρ = @bnd _ _ (@bnd _ _ ((ev S (.cmp2 o1 o2 a b c)).t ρ) ⟨fun k => ret (.bl k)⟩) ⟨fun p => ret (.fz p)⟩ := (rfl)
@[simp] theorem ev_and_e (a b : Ex) : (ev S (.and a b)).e ρ = @bnd _ _ ((ev S a).e ρ) ⟨fun p => @bnd _ _ (blM p) ⟨fun k => if k = true then (ev S b).e ρ else ret (.bl false)⟩⟩ := (rfl)
@[simp] theorem ev_and_o (a b : Ex) : (ev S (.and a b)).o ρ = @bnd _ _ ((ev S a).e ρ) ⟨fun p => @bnd _ _ (blM p) ⟨fun k => if k = true then (ev S b).e ρ else ret (.bl false)⟩⟩ := (rfl)
@[simp] theorem ev_and_t (a b : Ex) : (ev S (.and a b)).t ρ = @bnd _ _ ((ev S a).t ρ) ⟨fun k => if k = true then (ev S b).t ρ else ret false⟩ := (rfl)
@[simp] theorem ev_and_s (a b : Ex) : (ev S (.and a b)).s false ρ = @bnd _ _ (@bnd _ _ ((ev S a).e ρ) ⟨fun p => @bnd _ _ (blM p) ⟨fun k => if k = true then (ev S b).e ρ else ret (.bl false)⟩⟩) ⟨fun p => ret (.fz p)⟩ := (rfl)
@[simp] theorem ev_or_e (a b : Ex) : (ev S (.or a b)).e ρ = @bnd _ _ ((ev S a).e ρ) ⟨fun p => @bnd _ _ (blM p) ⟨fun k => if k = true then ret (.bl true) else (ev S b).e ρ⟩⟩ := (rfl)
@[simp] theorem ev_or_o (a b : Ex) : (ev S (.or a b)).o ρ = @bnd _ _ ((ev S a).e ρ) ⟨fun p => @bnd _ _ (blM p) ⟨fun k => if k = true then ret (.bl true) else (ev S b).e ρ⟩⟩ := (rfl)
@[simp] theorem ev_or_t (a b : Ex) : (ev S (.or a b)).t ρ = @bnd _ _ ((ev S a).t ρ) ⟨fun k => if k = true then ret true else (ev S b).t ρ⟩ := (rfl)
@[simp] theorem ev_or_s (a b : Ex) : (ev S (.or a b)).s false ρ = @bnd _ _ (@bnd _ _ ((ev S a).e ρ) ⟨fun p => @bnd _ _ (blM p) ⟨fun k => if k = true then ret (.bl true) else (ev S b).e ρ⟩⟩) ⟨fun p => ret (.fz p)⟩ := (rfl)
@[simp] theorem ev_one_e (a : Ex) : (ev S (.one a)).e ρ = (ev S a).e ρ := (rfl)
@[simp] theorem ev_one_o (a : Ex) : (ev S (.one a)).o ρ = (ev S a).e ρ := (rfl)
@[simp] theorem ev_one_t (a : Ex) : (ev S (.one a)).t ρ = (ev S a).t ρ := (rfl)
@[simp] theorem ev_one_s (a : Ex) : (ev S (.one a)).s false ρ = @bnd _ _ ((ev S a).e ρ) ⟨fun p => ret (.fz p)⟩ := (rfl)
@[simp] theorem ev_ite_e (c a b : Ex) : (ev S (.ite c a b)).e ρ = @bnd _ _ ((ev S c).t ρ) ⟨fun k => if k = true then (ev S a).e ρ else (ev S b).e ρ⟩ := (rfl)
@[simp] theorem ev_ite_o (c a b : Ex) : (ev S (.ite c a b)).o ρ = @bnd _ _ ((ev S c).t ρ) ⟨fun k => if k = true then (ev S a).e ρ else (ev S b).e ρ⟩ := (rfl)
@[simp] theorem ev_ite_s (c a b : Ex) : (ev S (.ite c a b)).s false ρ = @bnd _ _ (@bnd _ _ ((ev S c).t ρ) ⟨fun k => if k = true then (ev S a).e ρ else (ev S b).e ρ⟩) ⟨fun p => ret (.fz p)⟩ := (rfl)
@[simp] theorem ev_ite_i (c a b : Ex) : (ev S (.ite c a b)).i ρ = @bnd _ _ (@bnd _ _ ((ev S c).t ρ) ⟨fun k => if k = true then (ev S a).e ρ else (ev S b).e ρ⟩) ⟨itemsM⟩ := (rfl)
@[simp] theorem ev_ite_f (c a b : Ex) : (ev S (.ite c a b)).f ρ = @bnd _ _ (@bnd _ _ ((ev S c).t ρ) ⟨fun k => if k = true then (ev S a).e ρ else (ev S b).e ρ⟩) ⟨itemsM⟩ := (rfl)
@[simp] theorem ev_call_e (k : Nat) (as : Ex) : (ev S (.call k as)).e ρ = @bnd _ _ ((ev S as).a ρ) ⟨(S.F k).f⟩ := (rfl)
@[simp] theorem ev_call_o (k : Nat) (as : Ex) : (ev S (.call k as)).o ρ = @bnd _ _ ((ev S as).a ρ) ⟨(S.F k).f⟩ := (rfl)
@[simp] theorem ev_call_t (k : Nat) (as : Ex) : (ev S (.call k as)).t ρ = @bnd _ _ (@bnd _ _ ((ev S as).a ρ) ⟨(S.F k).f⟩) ⟨truthM⟩ := (rfl)
@[simp] theorem ev_call_s (k : Nat) (as : Ex) : (ev S (.call k as)).s false ρ = @bnd _ _ (@bnd _ _ ((ev S as).a ρ) ⟨(S.F k).f⟩) ⟨fun p => ret (.fz p)⟩ := (rfl)
@[simp] theorem ev_call_i (k : Nat) (as : Ex) : (ev S (.call k as)).i ρ = @bnd _ _ (@bnd _ _ ((ev S as).a ρ) ⟨(S.F k).f⟩) ⟨itemsM⟩ := (rfl)
@[simp] theorem ev_call_f (k : Nat) (as : Ex) : (ev S (.call k as)).f ρ = @bnd _ _ (@bnd _ _ ((ev S as).a ρ) ⟨(S.F k).f⟩) ⟨itemsM⟩ := (rfl)
@[simp] theorem ev_callv_e (i m : Nat) (as : Ex) : (ev S (.callv i m as)).e ρ = @bnd _ _ (varM ρ[i]?) ⟨fun p => @bnd _ _ (fnM p) ⟨fun k => req (k < m) (@bnd _ _ ((ev S as).a ρ) ⟨fun ps => (S.F k).f ps⟩)⟩⟩ := (rfl)
@[simp] theorem ev_callv_o (i m : Nat) (as : Ex) : (ev S (.callv i m as)).o ρ = @bnd _ _ (varM ρ[i]?) ⟨fun p => @bnd _ _ (fnM p) ⟨fun k => req (k < m) (@bnd _ _ ((ev S as).a ρ) ⟨fun ps => (S.F k).f ps⟩)⟩⟩ := (rfl)
@[simp] theorem ev_callv_t (i m : Nat) (as : Ex) : (ev S (.callv i m as)).t ρ = @bnd _ _ (@bnd _ _ (varM ρ[i]?) ⟨fun p => @bnd _ _ (fnM p) ⟨fun k => req (k < m) (@bnd _ _ ((ev S as).a ρ) ⟨fun ps => (S.F k).f ps⟩)⟩⟩) ⟨truthM⟩ := (rfl)
@[simp] theorem ev_callv_s (i m : Nat) (as : Ex) : (ev S (.callv i m as)).s false ρ = @bnd _ _ (@bnd _ _ (varM ρ[i]?) ⟨fun p => @bnd _ _ (fnM p) ⟨fun k => req (k < m) (@bnd _ _ ((ev S as).a ρ) ⟨fun ps => (S.F k).f ps⟩)⟩⟩) ⟨fun p => ret (.fz p)⟩ := (rfl)
@[simp] theorem ev_callv_i (i m : Nat) (as : Ex) : (ev S (.callv i m as)).i ρ = @bnd _ _ (@bnd _ _ (varM ρ[i]?) ⟨fun p => @bnd _ _ (fnM p) ⟨fun k => req (k < m) (@bnd _ _ ((ev S as).a ρ) ⟨fun ps => (S.F k).f ps⟩)⟩⟩) ⟨itemsM⟩ := (rfl)
@[simp] theorem ev_callv_f (i m : Nat) (as : Ex) : (ev S (.callv i m as)).f ρ = @bnd _ _ (@bnd _ _ (varM ρ[i]?) ⟨fun p => @bnd _ _ (fnM p) ⟨fun k => req (k < m) (@bnd _ _ ((ev S as).a ρ) ⟨fun ps => (S.F k).f ps⟩)⟩⟩) ⟨itemsM⟩ := (rfl)
@[simp] theorem ev_blt_e (f : Blt) (as : Ex) : (ev S (.blt f as)).e ρ = @bnd _ _ ((ev S as).b ρ) ⟨(bltM f)⟩ := (rfl)
@[simp] theorem ev_blt_o (f : Blt) (as : Ex) : (ev S (.blt f as)).o ρ = @bnd _ _ ((ev S as).b ρ) ⟨(bltM f)⟩ := (rfl)
@[simp] theorem ev_blt_t (f : Blt) (as : Ex) : (ev S (.blt f as)).t ρ = @bnd _ _ (@bnd _ _ ((ev S as).b ρ) ⟨(bltM f)⟩) ⟨truthM⟩ := (rfl)
@[simp] theorem ev_blt_s (f : Blt) (as : Ex) (m : Bool) : (ev S (.blt f as)).s m ρ = @bnd _ _ (@bnd _ _ ((ev S as).b ρ) ⟨(bltM f)⟩) ⟨(asOwnM m)⟩ := (rfl)
@[simp] theorem ev_blt_i (f : Blt) (as : Ex) : (ev S (.blt f as)).i ρ = @bnd _ _ (@bnd _ _ ((ev S as).b ρ) ⟨(bltM f)⟩) ⟨itemsM⟩ := (rfl)
@[simp] theorem ev_blt_f (f : Blt) (as : Ex) : (ev S (.blt f as)).f ρ = @bnd _ _ (@bnd _ _ ((ev S as).b ρ) ⟨(bltM f)⟩) ⟨itemsM⟩ := (rfl)
@[simp] theorem ev_isi_e (a : Ex) (ts : List Ty) : (ev S (.isi a ts)).e ρ = @bnd _ _ ((ev S a).o ρ) ⟨fun p => req (p.known = true) (ret (.bl (ts.any p.isTy)))⟩ := (rfl)
@[simp] theorem ev_isi_o (a : Ex) (ts : List Ty) : (ev S (.isi a ts)).o ρ = @bnd _ _ ((ev S a).o ρ) ⟨fun p => req (p.known = true) (ret (.bl (ts.any p.isTy)))⟩ := (rfl)
@[simp] theorem ev_isi_t (a : Ex) (ts : List Ty) : (ev S (.isi a ts)).t ρ = @bnd _ _ (@bnd _ _ ((ev S a).o ρ) ⟨fun p => req (p.known = true) (ret (.bl (ts.any p.isTy)))⟩) ⟨truthM⟩ := (rfl)
@[simp] theorem ev_isi_s (a : Ex) (ts : List Ty) : (ev S (.isi a ts)).s false ρ = @bnd _ _ (@bnd _ _ ((ev S a).o ρ) ⟨fun p => req (p.known = true) (ret (.bl (ts.any p.isTy)))⟩) ⟨fun p => ret (.fz p)⟩ := (rfl)
@[simp] theorem ev_isi_i (a : Ex) (ts : List Ty) : (ev S (.isi a ts)).i ρ = @bnd _ _ (@bnd _ _ ((ev S a).o ρ) ⟨fun p => req (p.known = true) (ret (.bl (ts.any p.isTy)))⟩) ⟨itemsM⟩ := (rfl)
@[simp] theorem ev_isi_f (a : Ex) (ts : List Ty) : (ev S (.isi a ts)).f ρ = @bnd _ _ (@bnd _ _ ((ev S a).o ρ) ⟨fun p => req (p.known = true) (ret (.bl (ts.any p.isTy)))⟩) ⟨itemsM⟩ := (rfl)
@[simp] theorem ev_idx_e (a b : Ex) : (ev S (.idx a b)).e ρ = @bnd _ _ ((ev S a).o ρ) ⟨fun p => @bnd _ _ ((ev S b).e ρ) ⟨fun q => idxM p q⟩⟩ := (rfl)
@[simp] theorem ev_idx_o (a b : Ex) : (ev S (.idx a b)).o ρ = @bnd _ _ ((ev S a).o ρ) ⟨fun p => @bnd _ _ ((ev S b).e ρ) ⟨fun q => idxM p q⟩⟩ := (rfl)
@[simp] theorem ev_idx_t (a b : Ex) : (ev S (.idx a b)).t ρ = @bnd _ _ (@bnd _ _ ((ev S a).o ρ) ⟨fun p => @bnd _ _ ((ev S b).e ρ) ⟨fun q => idxM p q⟩⟩) ⟨truthM⟩ := (rfl)
@[simp] theorem ev_idx_s (a b : Ex) : (ev S (.idx a b)).s false ρ = @bnd _ _ (@bnd _ _ ((ev S a).o ρ) ⟨fun p => @bnd _ _ ((ev S b).e ρ) ⟨fun q => idxM p q⟩⟩) ⟨fun p => ret (.fz p)⟩ := (rfl)
@[simp] theorem ev_idx_i (a b : Ex) : (ev S (.idx a b)).i ρ = @bnd _ _ (@bnd _ _ ((ev S a).o ρ) ⟨fun p => @bnd _ _ ((ev S b).e ρ) ⟨fun q => idxM p q⟩⟩) ⟨itemsM⟩ := (rfl)
@[simp] theorem ev_idx_f (a b : Ex) : (ev S (.idx a b)).f ρ = @bnd _ _ (@bnd _ _ ((ev S a).o ρ) ⟨fun p => @bnd _ _ ((ev S b).e ρ) ⟨fun q => idxM p q⟩⟩) ⟨itemsM⟩ := (rfl)
@[simp] theorem ev_slc_e (a lo hi : Ex) : (ev S (.slc a lo hi)).e ρ = @bnd _ _ ((ev S a).o ρ) ⟨fun p => @bnd _ _ ((ev S lo).a ρ) ⟨fun l => @bnd _ _ (partM l) ⟨fun i => @bnd _ _ ((ev S hi).a ρ) ⟨fun h => @bnd _ _ (partM h) ⟨fun j => slcM p i j⟩⟩⟩⟩⟩ := (rfl)
@[simp] theorem ev_slc_o (a lo hi : Ex) : (ev S (.slc a lo hi)).o ρ = @bnd _ _ ((ev S a).o ρ) ⟨fun p => @bnd _ _ ((ev S lo).a ρ) ⟨fun l => @bnd _ _ (partM l) ⟨fun i => @bnd _ _ ((ev S hi).a ρ) ⟨fun h => @bnd _ _ (partM h) ⟨fun j => slcM p i j⟩⟩⟩⟩⟩ := (rfl)
@[simp] theorem ev_slc_t (a lo hi : Ex) : (ev S (.slc a lo hi)).t ρ = @bnd _ _ (@bnd _ _ ((ev S a).o ρ) ⟨fun p => @bnd _ _ ((ev S lo).a ρ) ⟨fun l => @bnd _ _ (partM l) ⟨fun i => @bnd _ _ ((ev S hi).a ρ) ⟨fun h => @bnd _ _ (partM h) ⟨fun j => slcM p i j⟩⟩⟩⟩⟩) ⟨truthM⟩ := (rfl)
@[simp] theorem ev_slc_s (a lo hi : Ex) (m : Bool) : (ev S (.slc a lo hi)).s m ρ = @bnd _ _ (@bnd _ _ ((ev S a).o ρ) ⟨fun p => @bnd _ _ ((ev S lo).a ρ) ⟨fun l => @bnd _ _ (partM l) ⟨fun i => @bnd _ _ ((ev S hi).a ρ) ⟨fun h => @bnd _ _ (partM h) ⟨fun j => slcM p i j⟩⟩⟩⟩⟩) ⟨(asOwnM m)⟩ := (rfl)
@[simp] theorem ev_slc_i (a lo hi : Ex) : (ev S (.slc a lo hi)).i ρ = @bnd _ _ (@bnd _ _ ((ev S a).o ρ) ⟨fun p => @bnd _ _ ((ev S lo).a ρ) ⟨fun l => @bnd _ _ (partM l) ⟨fun i => @bnd _ _ ((ev S hi).a ρ) ⟨fun h => @bnd _ _ (partM h) ⟨fun j => slcM p i j⟩⟩⟩⟩⟩) ⟨itemsM⟩ := (rfl)
@[simp] theorem ev_slc_f (a lo hi : Ex) : (ev S (.slc a lo hi)).f ρ = @bnd _ _ (@bnd _ _ ((ev S a).o ρ) ⟨fun p => @bnd _ _ ((ev S lo).a ρ) ⟨fun l => @bnd _ _ (partM l) ⟨fun i => @bnd _ _ ((ev S hi).a ρ) ⟨fun h => @bnd _ _ (partM h) ⟨fun j => slcM p i j⟩⟩⟩⟩⟩) ⟨itemsM⟩ := (rfl)
@[simp] theorem ev_rev_e (a : Ex) : (ev S (.rev a)).e ρ = @bnd _ _ ((ev S a).o ρ) ⟨fun p => revM p⟩ := (rfl)
@[simp] theorem ev_rev_o (a : Ex) : (ev S (.rev a)).o ρ = @bnd _ _ ((ev S a).o ρ) ⟨fun p => revM p⟩ := (rfl)
@[simp] theorem ev_rev_t (a : Ex) : (ev S (.rev a)).t ρ = @bnd _ _ (@bnd _ _ ((ev S a).o ρ) ⟨fun p => revM p⟩) ⟨truthM⟩ := (rfl)
@[simp] theorem ev_rev_s (a : Ex) (m : Bool) : (ev S (.rev a)).s m ρ = @bnd _ _ (@bnd _ _ ((ev S a).o ρ) ⟨fun p => revM p⟩) ⟨(asOwnM m)⟩ := (rfl)
@[simp] theorem ev_rev_i (a : Ex) : (ev S (.rev a)).i ρ = @bnd _ _ (@bnd _ _ ((ev S a).o ρ) ⟨fun p => revM p⟩) ⟨itemsM⟩ := (rfl)
@[simp] theorem ev_rev_f (a : Ex) : (ev S (.rev a)).f ρ = @bnd _ _ (@bnd _ _ ((ev S a).o ρ) ⟨fun p => revM p⟩) ⟨itemsM⟩ := (rfl)
@[simp] theorem ev_tup_e (as : Ex) : (ev S (.tup as)).e ρ = @bnd _ _ ((ev S as).a ρ) ⟨fun ps => req (ps.length ≤ sizeLine) (ret (.tup ps))⟩ := (rfl)
@[simp] theorem ev_tup_o (as : Ex) : (ev S (.tup as)).o ρ = @bnd _ _ ((ev S as).a ρ) ⟨fun ps => req (ps.length ≤ sizeLine) (ret (.tup ps))⟩ := (rfl)
@[simp] theorem ev_tup_t (as : Ex) : (ev S (.tup as)).t ρ = @bnd _ _ (@bnd _ _ ((ev S as).a ρ) ⟨fun ps => req (ps.length ≤ sizeLine) (ret (.tup ps))⟩) ⟨truthM⟩ := (rfl)
@[simp] theorem ev_tup_s (as : Ex) : (ev S (.tup as)).s false ρ = @bnd _ _ (@bnd _ _ ((ev S as).a ρ) ⟨fun ps => req (ps.length ≤ sizeLine) (ret (.tup ps))⟩) ⟨fun p => ret (.fz p)⟩ := (rfl)
@[simp] theorem ev_tup_i (as : Ex) : (ev S (.tup as)).i ρ = @bnd _ _ (@bnd _ _ ((ev S as).a ρ) ⟨fun ps => req (ps.length ≤ sizeLine) (ret (.tup ps))⟩) ⟨itemsM⟩ := (rfl)
@[simp] theorem ev_tup_f (as : Ex) : (ev S (.tup as)).f ρ = @bnd _ _ (@bnd _ _ ((ev S as).a ρ) ⟨fun ps => req (ps.length ≤ sizeLine) (ret (.tup ps))⟩) ⟨itemsM⟩ := (rfl)
@[simp] theorem ev_lst_e (as : Ex) : (ev S (.lst as)).e ρ = @bnd _ _ ((ev S as).a ρ) ⟨fun ps => req (ps.length ≤ sizeLine) (ret (.lst ps))⟩ := (rfl)
@[simp] theorem ev_lst_o (as : Ex) : (ev S (.lst as)).o ρ = @bnd _ _ ((ev S as).a ρ) ⟨fun ps => req (ps.length ≤ sizeLine) (ret (.lst ps))⟩ := (rfl)
@[simp] theorem ev_lst_t (as : Ex) : (ev S (.lst as)).t ρ = @bnd _ _ (@bnd _ _ ((ev S as).a ρ) ⟨fun ps => req (ps.length ≤ sizeLine) (ret (.lst ps))⟩) ⟨truthM⟩ := (rfl)
@[simp] theorem ev_lst_s (as : Ex) (m : Bool) : (ev S (.lst as)).s m ρ = @bnd _ _ (@bnd _ _ ((ev S as).a ρ) ⟨fun ps => req (ps.length ≤ sizeLine) (ret (.lst ps))⟩) ⟨(asOwnM m)⟩ := (rfl)
@[simp] theorem ev_lst_i (as : Ex) : (ev S (.lst as)).i ρ = @bnd _ _ (@bnd _ _ ((ev S as).a ρ) ⟨fun ps => req (ps.length ≤ sizeLine) (ret (.lst ps))⟩) ⟨itemsM⟩ := (rfl)
@[simp] theorem ev_lst_f (as : Ex) : (ev S (.lst as)).f ρ = @bnd _ _ (@bnd _ _ ((ev S as).a ρ) ⟨fun ps => req (ps.length ≤ sizeLine) (ret (.lst ps))⟩) ⟨itemsM⟩ := (rfl)
@[simp] theorem ev_comp_e (tg : Tg) (src cnd elt : Ex) (own : List Nat) : (ev S (.comp tg src cnd elt own)).e ρ = @bnd _ _ ((ev S src).i ρ) ⟨fun items => @bnd _ _ (cmpL S tg cnd elt (wipeR ρ own) items) ⟨fun ys => ret (.lst ys)⟩⟩ := by unfold cmpL; rfl
@[simp] theorem ev_comp_o (tg : Tg) (src cnd elt : Ex) (own : List Nat) : (ev S (.comp tg src cnd elt own)).o ρ = @bnd _ _ ((ev S src).i ρ) ⟨fun items => @bnd _ _ (cmpL S tg cnd elt (wipeR ρ own) items) ⟨fun ys => ret (.lst ys)⟩⟩ := by unfold cmpL; rfl
@[simp] theorem ev_comp_t (tg : Tg) (src cnd elt : Ex) (own : List Nat) : (ev S (.comp tg src cnd elt own)).t ρ = @bnd _ _ (@bnd _ _ ((ev S src).i ρ) ⟨fun items => @bnd _ _ (cmpL S tg cnd elt (wipeR ρ own) items) ⟨fun ys => ret (.lst ys)⟩⟩) ⟨truthM⟩ := by unfold cmpL; rfl
@[simp] theorem ev_comp_s (tg : Tg) (src cnd elt : Ex) (own : List Nat) (m : Bool) : (ev S (.comp tg src cnd elt own)).s m ρ = @bnd _ _ (@bnd _ _ ((ev S src).i ρ) ⟨fun items => @bnd _ _ (cmpL S tg cnd elt (wipeR ρ own) items) ⟨fun ys => ret (.lst ys)⟩⟩) ⟨(asOwnM m)⟩ := by unfold cmpL; rfl
@[simp] theorem ev_comp_i (tg : Tg) (src cnd elt : Ex) (own : List Nat) : (ev S (.comp tg src cnd elt own)).i ρ = @bnd _ _ (@bnd _ _ ((ev S src).i ρ) ⟨fun items => @bnd _ _ (cmpL S tg cnd elt (wipeR ρ own) items) ⟨fun ys => ret (.lst ys)⟩⟩) ⟨itemsM⟩ := by unfold cmpL; rfl
@[simp] theorem ev_comp_f (tg : Tg) (src cnd elt : Ex) (own : List Nat) : (ev S (.comp tg src cnd elt own)).f ρ = @bnd _ _ (@bnd _ _ ((ev S src).i ρ) ⟨fun items => @bnd _ _ (cmpL S tg cnd elt (wipeR ρ own) items) ⟨fun ys => ret (.lst ys)⟩⟩) ⟨itemsM⟩ := by unfold cmpL; rfl
@[simp] theorem ev_cnt_e (a b : Ex) : (ev S (.cnt a b)).e ρ = @bnd _ _ ((ev S a).o ρ) ⟨fun p => @bnd _ _ (lstM p) ⟨fun xs => @bnd _ _ ((ev S b).e ρ) ⟨fun q => cntM xs q⟩⟩⟩ := (rfl)
@[simp] theorem ev_cnt_o (a b : Ex) : (ev S (.cnt a b)).o ρ = @bnd _ _ ((ev S a).o ρ) ⟨fun p => @bnd _ _ (lstM p) ⟨fun xs => @bnd _ _ ((ev S b).e ρ) ⟨fun q => cntM xs q⟩⟩⟩ := (rfl)
@[simp] theorem ev_cnt_t (a b : Ex) : (ev S (.cnt a b)).t ρ = @bnd _ _ (@bnd _ _ ((ev S a).o ρ) ⟨fun p => @bnd _ _ (lstM p) ⟨fun xs => @bnd _ _ ((ev S b).e ρ) ⟨fun q => cntM xs q⟩⟩⟩) ⟨truthM⟩ := (rfl)
@[simp] theorem ev_cnt_s (a b : Ex) : (ev S (.cnt a b)).s false ρ = @bnd _ _ (@bnd _ _ ((ev S a).o ρ) ⟨fun p => @bnd _ _ (lstM p) ⟨fun xs => @bnd _ _ ((ev S b).e ρ) ⟨fun q => cntM xs q⟩⟩⟩) ⟨fun p => ret (.fz p)⟩ := (rfl)
@[simp] theorem ev_cnt_i (a b : Ex) : (ev S (.cnt a b)).i ρ = @bnd _ _ (@bnd _ _ ((ev S a).o ρ) ⟨fun p => @bnd _ _ (lstM p) ⟨fun xs => @bnd _ _ ((ev S b).e ρ) ⟨fun q => cntM xs q⟩⟩⟩) ⟨itemsM⟩ := (rfl)
@[simp] theorem ev_cnt_f (a b : Ex) : (ev S (.cnt a b)).f ρ = @bnd _ _ (@bnd _ _ ((ev S a).o ρ) ⟨fun p => @bnd _ _ (lstM p) ⟨fun xs => @bnd _ _ ((ev S b).e ρ) ⟨fun q => cntM xs q⟩⟩⟩) ⟨itemsM⟩ := (rfl)
@[simp] theorem ev_dgt_e (a k x : Ex) : (ev S (.dgt a k x)).e ρ = @bnd _ _ ((ev S a).o ρ) ⟨fun p => @bnd _ _ (dctM p) ⟨fun kvs => @bnd _ _ ((ev S k).e ρ) ⟨fun q => @bnd _ _ (keyM q) ⟨fun j => if x.isNil = true then ret ((dg kvs j).getD .non) else @bnd _ _ ((ev S x).e ρ) ⟨fun z => ret ((dg kvs j).getD z)⟩⟩⟩⟩⟩ := (rfl)
@[simp] theorem ev_dgt_o (a k x : Ex) : (ev S (.dgt a k x)).o ρ = @bnd _ _ ((ev S a).o ρ) ⟨fun p => @bnd _ _ (dctM p) ⟨fun kvs => @bnd _ _ ((ev S k).e ρ) ⟨fun q => @bnd _ _ (keyM q) ⟨fun j => if x.isNil = true then ret ((dg kvs j).getD .non) else @bnd _ _ ((ev S x).e ρ) ⟨fun z => ret ((dg kvs j).getD z)⟩⟩⟩⟩⟩ := (rfl)
@[simp] theorem ev_dgt_t (a k x : Ex) : (ev S (.dgt a k x)).t ρ = @bnd _ _ (@bnd _ _ ((ev S a).o ρ) ⟨fun p => @bnd _ _ (dctM p) ⟨fun kvs => @bnd _ _ ((ev S k).e ρ) ⟨fun q => @bnd _ _ (keyM q) ⟨fun j => if x.isNil = true then ret ((dg kvs j).getD .non) else @bnd _ _ ((ev S x).e ρ) ⟨fun z => ret ((dg kvs j).getD z)⟩⟩⟩⟩⟩) ⟨truthM⟩ := (rfl)
@[simp] theorem ev_dgt_s (a k x : Ex) : (ev S (.dgt a k x)).s false ρ = @bnd _ _ (@bnd _ _ ((ev S a).o ρ) ⟨fun p => @bnd _ _ (dctM p) ⟨fun kvs => @bnd _ _ ((ev S k).e ρ) ⟨fun q => @bnd _ _ (keyM q) ⟨fun j => if x.isNil = true then ret ((dg kvs j).getD .non) else @bnd _ _ ((ev S x).e ρ) ⟨fun z => ret ((dg kvs j).getD z)⟩⟩⟩⟩⟩) ⟨fun p => ret (.fz p)⟩ := (rfl)
@[simp] theorem ev_dgt_i (a k x : Ex) : (ev S (.dgt a k x)).i ρ = @bnd _ _ (@bnd _ _ ((ev S a).o ρ) ⟨fun p => @bnd _ _ (dctM p) ⟨fun kvs => @bnd _ _ ((ev S k).e ρ) ⟨fun q => @bnd _ _ (keyM q) ⟨fun j => if x.isNil = true then ret ((dg kvs j).getD .non) else @bnd _ _ ((ev S x).e ρ) ⟨fun z => ret ((dg kvs j).getD z)⟩⟩⟩⟩⟩) ⟨itemsM⟩ := (rfl)
@[simp] theorem ev_dgt_f (a k x : Ex) : (ev S (.dgt a k x)).f ρ = @bnd _ _ (@bnd _ _ ((ev S a).o ρ) ⟨fun p => @bnd _ _ (dctM p) ⟨fun kvs => @bnd _ _ ((ev S k).e ρ) ⟨fun q => @bnd _ _ (keyM q) ⟨fun j => if x.isNil = true then ret ((dg kvs j).getD .non) else @bnd _ _ ((ev S x).e ρ) ⟨fun z => ret ((dg kvs j).getD z)⟩⟩⟩⟩⟩) ⟨itemsM⟩ := (rfl)
@[simp] theorem ev_dco_e (tg : Tg) (src cnd ky vl : Ex) (own : List Nat) : (ev S (.dco tg src cnd ky vl own)).e ρ = @bnd _ _ ((ev S src).i ρ) ⟨fun items => @bnd _ _ (dcoL S tg cnd ky vl (wipeR ρ own) items []) ⟨fun kvs => ret (.dct kvs)⟩⟩ := by unfold dcoL; rfl
@[simp] theorem ev_dco_o (tg : Tg) (src cnd ky vl : Ex) (own : List Nat) : (ev S (.dco tg src cnd ky vl own)).o ρ = @bnd _ _ ((ev S src).i ρ) ⟨fun items => @bnd _ _ (dcoL S tg cnd ky vl (wipeR ρ own) items []) ⟨fun kvs => ret (.dct kvs)⟩⟩ := by unfold dcoL; rfl
@[simp] theorem ev_dco_t (tg : Tg) (src cnd ky vl : Ex) (own : List Nat) : (ev S (.dco tg src cnd ky vl own)).t ρ = @bnd _ _ (@bnd _ _ ((ev S src).i ρ) ⟨fun items => @bnd _ _ (dcoL S tg cnd ky vl (wipeR ρ own) items []) ⟨fun kvs => ret (.dct kvs)⟩⟩) ⟨truthM⟩ := by unfold dcoL; rfl
@[simp] theorem ev_dco_s (tg : Tg) (src cnd ky vl : Ex) (own : List Nat) (m : Bool) : (ev S (.dco tg src cnd ky vl own)).s m ρ = @bnd _ _ (@bnd _ _ ((ev S src).i ρ) ⟨fun items => @bnd _ _ (dcoL S tg cnd ky vl (wipeR ρ own) items []) ⟨fun kvs => ret (.dct kvs)⟩⟩) ⟨(asOwnM m)⟩ := by unfold dcoL; rfl
@[simp] theorem ev_dco_i (tg : Tg) (src cnd ky vl : Ex) (own : List Nat) : (ev S (.dco tg src cnd ky vl own)).i ρ = @bnd _ _ (@bnd _ _ ((ev S src).i ρ) ⟨fun items => @bnd _ _ (dcoL S tg cnd ky vl (wipeR ρ own) items []) ⟨fun kvs => ret (.dct kvs)⟩⟩) ⟨itemsM⟩ := by unfold dcoL; rfl
@[simp] theorem ev_dco_f (tg : Tg) (src cnd ky vl : Ex) (own : List Nat) : (ev S (.dco tg src cnd ky vl own)).f ρ = @bnd _ _ (@bnd _ _ ((ev S src).i ρ) ⟨fun items => @bnd _ _ (dcoL S tg cnd ky vl (wipeR ρ own) items []) ⟨fun kvs => ret (.dct kvs)⟩⟩) ⟨itemsM⟩ := by unfold dcoL; rfl
@[simp] theorem ev_dd1_e (k v : Ex) : (ev S (.dd1 k v)).e ρ = @bnd _ _ ((ev S k).e ρ) ⟨fun q => @bnd _ _ (keyM q) ⟨fun j => @bnd _ _ ((ev S v).e ρ) ⟨fun z => ret (.dct [(j, z)])⟩⟩⟩ := (rfl)
@[simp] theorem ev_dd1_o (k v : Ex) : (ev S (.dd1 k v)).o ρ = @bnd _ _ ((ev S k).e ρ) ⟨fun q => @bnd _ _ (keyM q) ⟨fun j => @bnd _ _ ((ev S v).e ρ) ⟨fun z => ret (.dct [(j, z)])⟩⟩⟩ := (rfl)
@[simp] theorem ev_dd1_t (k v : Ex) : (ev S (.dd1 k v)).t ρ = @bnd _ _ (@bnd _ _ ((ev S k).e ρ) ⟨fun q => @bnd _ _ (keyM q) ⟨fun j => @bnd _ _ ((ev S v).e ρ) ⟨fun z => ret (.dct [(j, z)])⟩⟩⟩) ⟨truthM⟩ := (rfl)
@[simp] theorem ev_dd1_s (k v : Ex) (m : Bool) : (ev S (.dd1 k v)).s m ρ = @bnd _ _ (@bnd _ _ ((ev S k).e ρ) ⟨fun q => @bnd _ _ (keyM q) ⟨fun j => @bnd _ _ ((ev S v).e ρ) ⟨fun z => ret (.dct [(j, z)])⟩⟩⟩) ⟨(asOwnM m)⟩ := (rfl)
@[simp] theorem ev_dd1_i (k v : Ex) : (ev S (.dd1 k v)).i ρ = @bnd _ _ (@bnd _ _ ((ev S k).e ρ) ⟨fun q => @bnd _ _ (keyM q) ⟨fun j => @bnd _ _ ((ev S v).e ρ) ⟨fun z => ret (.dct [(j, z)])⟩⟩⟩) ⟨itemsM⟩ := (rfl)
@[simp] theorem ev_dd1_f (k v : Ex) : (ev S (.dd1 k v)).f ρ = @bnd _ _ (@bnd _ _ ((ev S k).e ρ) ⟨fun q => @bnd _ _ (keyM q) ⟨fun j => @bnd _ _ ((ev S v).e ρ) ⟨fun z => ret (.dct [(j, z)])⟩⟩⟩) ⟨itemsM⟩ := (rfl)
@[simp] theorem ev_dvw_i (b : Bool) (a : Ex) : (ev S (.dvw b a)).i ρ = @bnd _ _ ((ev S a).e ρ) ⟨fun p => @bnd _ _ (dctM p) ⟨fun kvs => ret (if b then kvs.map fun z => .tup [keyP z.1, z.2] else kvs.map (·.2))⟩⟩ := (rfl)
@[simp] theorem ev_dvw_f (b : Bool) (a : Ex) : (ev S (.dvw b a)).f ρ = @bnd _ _ ((ev S a).e ρ) ⟨fun p => @bnd _ _ (dctM p) ⟨fun kvs => ret (if b then kvs.map fun z => .tup [keyP z.1, z.2] else kvs.map (·.2))⟩⟩ := (rfl)
@[simp] theorem ev_dnew_e : (ev S .dnew).e ρ = ret (.dct []) := (rfl)
@[simp] theorem ev_dnew_o : (ev S .dnew).o ρ = ret (.dct []) := (rfl)
@[simp] theorem ev_dnew_t : (ev S .dnew).t ρ = @bnd _ _ (ret (.dct [])) ⟨truthM⟩ := (rfl)
@[simp] theorem ev_dnew_s (m : Bool) : (ev S .dnew).s m ρ = @bnd _ _ (ret (.dct [])) ⟨(asOwnM m)⟩ := (rfl)
@[simp] theorem ev_dnew_i : (ev S .dnew).i ρ = @bnd _ _ (ret (.dct [])) ⟨itemsM⟩ := (rfl)
@[simp] theorem ev_dnew_f : (ev S .dnew).f ρ = @bnd _ _ (ret (.dct [])) ⟨itemsM⟩ := (rfl)
@[simp] theorem ev_isx_e (i : Nat) (c : Option Nat) : (ev S (.isx i c)).e ρ = @bnd _ _ (exM ρ[i]?) ⟨fun k => ret (.bl (isxB S.sb k c))⟩ := (rfl)
@[simp] theorem ev_isx_o (i : Nat) (c : Option Nat) : (ev S (.isx i c)).o ρ = @bnd _ _ (exM ρ[i]?) ⟨fun k => ret (.bl (isxB S.sb k c))⟩ := (rfl)
@[simp] theorem ev_isx_t (i : Nat) (c : Option Nat) : (ev S (.isx i c)).t ρ = @bnd _ _ (@bnd _ _ (exM ρ[i]?) ⟨fun k => ret (.bl (isxB S.sb k c))⟩) ⟨truthM⟩ := (rfl)
@[simp] theorem ev_isx_s (i : Nat) (c : Option Nat) : (ev S (.isx i c)).s false ρ = @bnd _ _ (@bnd _ _ (exM ρ[i]?) ⟨fun k => ret (.bl (isxB S.sb k c))⟩) ⟨fun p => ret (.fz p)⟩ := (rfl)
@[simp] theorem ev_isx_i (i : Nat) (c : Option Nat) : (ev S (.isx i c)).i ρ = @bnd _ _ (@bnd _ _ (exM ρ[i]?) ⟨fun k => ret (.bl (isxB S.sb k c))⟩) ⟨itemsM⟩ := (rfl)
@[simp] theorem ev_isx_f (i : Nat) (c : Option Nat) : (ev S (.isx i c)).f ρ = @bnd _ _ (@bnd _ _ (exM ρ[i]?) ⟨fun k => ret (.bl (isxB S.sb k c))⟩) ⟨itemsM⟩ := (rfl)
@[simp] theorem ev_lam_e (k : Nat) (b : Ex) : (ev S (.lam k b)).e ρ = nox ((S.wd k).f ((ev S b).e ρ)) := (rfl)
@[simp] theorem ev_lam_o (k : Nat) (b : Ex) : (ev S (.lam k b)).o ρ = nox ((S.wd k).f ((ev S b).e ρ)) := (rfl)
@[simp] theorem ev_lam_t (k : Nat) (b : Ex) : (ev S (.lam k b)).t ρ = @bnd _ _ (nox ((S.wd k).f ((ev S b).e ρ))) ⟨truthM⟩ := (rfl)
@[simp] theorem ev_lam_s (k : Nat) (b : Ex) : (ev S (.lam k b)).s false ρ = @bnd _ _ (nox ((S.wd k).f ((ev S b).e ρ))) ⟨fun p => ret (.fz p)⟩ := (rfl)
@[simp] theorem ev_lam_i (k : Nat) (b : Ex) : (ev S (.lam k b)).i ρ = @bnd _ _ (nox ((S.wd k).f ((ev S b).e ρ))) ⟨itemsM⟩ := (rfl)
@[simp] theorem ev_lam_f (k : Nat) (b : Ex) : (ev S (.lam k b)).f ρ = @bnd _ _ (nox ((S.wd k).f ((ev S b).e ρ))) ⟨itemsM⟩ := (rfl)
@[simp] theorem ev_thk_e (i : Nat) : (ev S (.thk i)).e ρ = thM S.tk ρ[i]? := (rfl)
@[simp] theorem ev_thk_o (i : Nat) : (ev S (.thk i)).o ρ = thM S.tk ρ[i]? := (rfl)
@[simp] theorem ev_thk_t (i : Nat) : (ev S (.thk i)).t ρ = @bnd _ _ (thM S.tk ρ[i]?) ⟨truthM⟩ := (rfl)
@[simp] theorem ev_thk_s (i : Nat) : (ev S (.thk i)).s false ρ = @bnd _ _ (thM S.tk ρ[i]?) ⟨fun p => ret (.fz p)⟩ := (rfl)
@[simp] theorem ev_thk_i (i : Nat) : (ev S (.thk i)).i ρ = @bnd _ _ (thM S.tk ρ[i]?) ⟨itemsM⟩ := (rfl)
@[simp] theorem ev_thk_f (i : Nat) : (ev S (.thk i)).f ρ = @bnd _ _ (thM S.tk ρ[i]?) ⟨itemsM⟩ := (rfl)
@[simp] theorem ev_lix_e (a b : Ex) : (ev S (.lix a b)).e ρ = @bnd _ _ ((ev S a).o ρ) ⟨fun p => @bnd _ _ (lstM p) ⟨fun xs => @bnd _ _ ((ev S b).e ρ) ⟨fun q => lixM xs q⟩⟩⟩ := (rfl)
@[simp] theorem ev_lix_o (a b : Ex) : (ev S (.lix a b)).o ρ = @bnd _ _ ((ev S a).o ρ) ⟨fun p => @bnd _ _ (lstM p) ⟨fun xs => @bnd _ _ ((ev S b).e ρ) ⟨fun q => lixM xs q⟩⟩⟩ := (rfl)
@[simp] theorem ev_lix_t (a b : Ex) : (ev S (.lix a b)).t ρ = @bnd _ _ (@bnd _ _ ((ev S a).o ρ) ⟨fun p => @bnd _ _ (lstM p) ⟨fun xs => @bnd _ _ ((ev S b).e ρ) ⟨fun q => lixM xs q⟩⟩⟩) ⟨truthM⟩ := (rfl)
@[simp] theorem ev_lix_s (a b : Ex) : (ev S (.lix a b)).s false ρ = @bnd _ _ (@bnd _ _ ((ev S a).o ρ) ⟨fun p => @bnd _ _ (lstM p) ⟨fun xs => @bnd _ _ ((ev S b).e ρ) ⟨fun q => lixM xs q⟩⟩⟩) ⟨fun p => ret (.fz p)⟩ := (rfl)
@[simp] theorem ev_lix_i (a b : Ex) : (ev S (.lix a b)).i ρ = @bnd _ _ (@bnd _ _ ((ev S a).o ρ) ⟨fun p => @bnd _ _ (lstM p) ⟨fun xs => @bnd _ _ ((ev S b).e ρ) ⟨fun q => lixM xs q⟩⟩⟩) ⟨itemsM⟩ := (rfl)
@[simp] theorem ev_lix_f (a b : Ex) : (ev S (.lix a b)).f ρ = @bnd _ _ (@bnd _ _ ((ev S a).o ρ) ⟨fun p => @bnd _ _ (lstM p) ⟨fun xs => @bnd _ _ ((ev S b).e ρ) ⟨fun q => lixM xs q⟩⟩⟩) ⟨itemsM⟩ := (rfl)
@[simp] theorem ev_own_o (i : Nat) : (ev S (.own i)).o ρ = ownM ρ[i]? := (rfl)
@[simp] theorem ev_own_t (i : Nat) : (ev S (.own i)).t ρ = @bnd _ _ (ownM ρ[i]?) ⟨truthM⟩ := (rfl)
@[simp] theorem ev_own_i (i : Nat) : (ev S (.own i)).i ρ = olM ρ[i]? := (rfl)
@[simp] theorem ev_rng1_i (a : Ex) : (ev S (.rng1 a)).i ρ = @bnd _ _ ((ev S a).e ρ) ⟨rng1M⟩ := (rfl)
@[simp] theorem ev_rng2_i (a b : Ex) : (ev S (.rng2 a b)).i ρ = @bnd _ _ ((ev S a).e ρ) ⟨fun p => @bnd _ _ ((ev S b).e ρ) ⟨fun q => rng2M p q⟩⟩ := (rfl)
@[simp] theorem ev_rng3_i (a b c : Ex) : (ev S (.rng3 a b c)).i ρ = @bnd _ _ ((ev S a).e ρ) ⟨fun p => @bnd _ _ ((ev S b).e ρ) ⟨fun q => @bnd _ _ ((ev S c).e ρ) ⟨fun r => rng3M p q r⟩⟩⟩ := (rfl)
@[simp] theorem ev_rng3_f (a b c : Ex) : (ev S (.rng3 a b c)).f ρ = @bnd _ _ ((ev S a).e ρ) ⟨fun p => @bnd _ _ ((ev S b).e ρ) ⟨fun q => @bnd _ _ ((ev S c).e ρ) ⟨fun r => rng3M p q r⟩⟩⟩ := (rfl)
@[simp] theorem ev_trg_e (m : Bool) (lo hi : Ex) : (ev S (.trg m lo hi)).e ρ = if lo.isNil = true then @bnd _ _ ((ev S hi).e ρ) ⟨fun q => trgM m (.int 0) q⟩ else @bnd _ _ ((ev S lo).e ρ) ⟨fun p => @bnd _ _ ((ev S hi).e ρ) ⟨fun q => trgM m p q⟩⟩ := (rfl)
@[simp] theorem ev_trg_o (m : Bool) (lo hi : Ex) : (ev S (.trg m lo hi)).o ρ = if lo.isNil = true then @bnd _ _ ((ev S hi).e ρ) ⟨fun q => trgM m (.int 0) q⟩ else @bnd _ _ ((ev S lo).e ρ) ⟨fun p => @bnd _ _ ((ev S hi).e ρ) ⟨fun q => trgM m p q⟩⟩ := (rfl)
@[simp] theorem ev_trg_s (m : Bool) (lo hi : Ex) (o : Bool) : (ev S (.trg m lo hi)).s o ρ = @bnd _ _ (if lo.isNil = true then @bnd _ _ ((ev S hi).e ρ) ⟨fun q => trgM m (.int 0) q⟩ else @bnd _ _ ((ev S lo).e ρ) ⟨fun p => @bnd _ _ ((ev S hi).e ρ) ⟨fun q => trgM m p q⟩⟩) ⟨asOwnM o⟩ := (rfl)
@[simp] theorem ev_trg_i (m : Bool) (lo hi : Ex) : (ev S (.trg m lo hi)).i ρ = @bnd _ _ (if lo.isNil = true then @bnd _ _ ((ev S hi).e ρ) ⟨fun q => trgM m (.int 0) q⟩ else @bnd _ _ ((ev S lo).e ρ) ⟨fun p => @bnd _ _ ((ev S hi).e ρ) ⟨fun q => trgM m p q⟩⟩) ⟨itemsM⟩ := (rfl)
@[simp] theorem ev_trg_f (m : Bool) (lo hi : Ex) : (ev S (.trg m lo hi)).f ρ = @bnd _ _ (if lo.isNil = true then @bnd _ _ ((ev S hi).e ρ) ⟨fun q => trgM m (.int 0) q⟩ else @bnd _ _ ((ev S lo).e ρ) ⟨fun p => @bnd _ _ ((ev S hi).e ρ) ⟨fun q => trgM m p q⟩⟩) ⟨itemsM⟩ := (rfl)
@[simp] theorem evS_appP (i j : Nat) (x : Ex) : evS S (.appP i j x) ρ = @bnd _ _ (olM ρ[i]?) ⟨fun xs => @bnd _ _ (olM ρ[j]?) ⟨fun ys => @bnd _ _ ((ev S x).e ρ) ⟨fun p => @bnd _ _ (popM ys p) ⟨fun z => req (xs.length < sizeLine) (ret (.nx ((ρ.set j (.ol z.2)).set i (.ol (xs ++ [z.1])))))⟩⟩⟩⟩ := (rfl)
@[simp] theorem evS_popS (i j : Nat) : evS S (.popS i j) ρ = @bnd _ _ (olM ρ[j]?) ⟨fun ys => @bnd _ _ (lastM ys) ⟨fun z => ret (.nx ((ρ.set j (.ol z.2)).set i (.fz z.1)))⟩⟩ := (rfl)
@[simp] theorem ev_zip_i (a b : Ex) : (ev S (.zip a b)).i ρ = @bnd _ _ ((ev S a).o ρ) ⟨fun p => @bnd _ _ ((ev S b).o ρ) ⟨fun q => zipM p q⟩⟩ := (rfl)
@[simp] theorem ev_enum_i (a : Ex) : (ev S (.enum a)).i ρ = @bnd _ _ ((ev S a).o ρ) ⟨fun p => @bnd _ _ (itemsLM p) ⟨fun xs => ret (enumL 0 xs)⟩⟩ := (rfl)
@[simp] theorem ev_rng1_f (a : Ex) : (ev S (.rng1 a)).f ρ = @bnd _ _ ((ev S a).e ρ) ⟨rng1M⟩ := (rfl)
@[simp] theorem ev_rng2_f (a b : Ex) : (ev S (.rng2 a b)).f ρ = @bnd _ _ ((ev S a).e ρ) ⟨fun p => @bnd _ _ ((ev S b).e ρ) ⟨fun q => rng2M p q⟩⟩ := (rfl)
@[simp] theorem ev_zip_f (a b : Ex) : (ev S (.zip a b)).f ρ = @bnd _ _ ((ev S a).e ρ) ⟨fun p => @bnd _ _ ((ev S b).e ρ) ⟨fun q => zipM p q⟩⟩ := (rfl)
@[simp] theorem ev_enum_f (a : Ex) : (ev S (.enum a)).f ρ = @bnd _ _ ((ev S a).e ρ) ⟨fun p => @bnd _ _ (itemsLM p) ⟨fun xs => ret (enumL 0 xs)⟩⟩ := (rfl)
@[simp] theorem ev_nil_a : (ev S .nil).a ρ = ret [] := (rfl)
@[simp] theorem ev_cons_a (a b : Ex) : (ev S (.cons a b)).a ρ = @bnd _ _ ((ev S a).e ρ) ⟨fun p => @bnd _ _ ((ev S b).a ρ) ⟨fun ps => ret (p :: ps)⟩⟩ := (rfl)
@[simp] theorem ev_nil_b : (ev S .nil).b ρ = ret [] := (rfl)
@[simp] theorem ev_cons_b (a b : Ex) : (ev S (.cons a b)).b ρ = @bnd _ _ ((ev S a).o ρ) ⟨fun p => @bnd _ _ ((ev S b).b ρ) ⟨fun ps => ret (p :: ps)⟩⟩ := (rfl)
@[simp] theorem evS_nil  : evS S .nil ρ = ret (.nx ρ) := (rfl)
@[simp] theorem evS_seq (a b : Sx) : evS S (.seq a b) ρ = @bnd _ _ (evS S a ρ) ⟨(Oc.on (evS S b))⟩ := (rfl)
@[simp] theorem evS_pass  : evS S .pass ρ = ret (.nx ρ) := (rfl)
@[simp] theorem evS_brk  : evS S .brk ρ = ret (.bk ρ) := (rfl)
@[simp] theorem evS_cnt  : evS S .cnt ρ = ret (.ct ρ) := (rfl)
@[simp] theorem evS_set (m : Bool) (i : Nat) (x : Ex) : evS S (.set m i x) ρ = @bnd _ _ ((ev S x).s m ρ) ⟨fun s => ret (.nx (ρ.set i s))⟩ := (rfl)
@[simp] theorem evS_setD (i : Nat) : evS S (.setD i) ρ = ret (.nx (ρ.set i (.od []))) := (rfl)
@[simp] theorem evS_frz (i : Nat) : evS S (.frz i) ρ = @bnd _ _ (frzM ρ[i]?) ⟨fun s => ret (.nx (ρ.set i s))⟩ := (rfl)
@[simp] theorem evS_unp (tg : Tg) (x : Ex) : evS S (.unp tg x) ρ = @bnd _ _ ((ev S x).e ρ) ⟨fun p => @bnd _ _ ((tgM tg).one p ρ) ⟨fun ρ' => ret (.nx ρ')⟩⟩ := (rfl)
@[simp] theorem evS_par (m : Bool) (i : Nat) (a : Ex) (n : Bool) (j : Nat) (b : Ex) : evS S (.par m i a n j b) ρ = @bnd _ _ ((ev S a).s m ρ) ⟨fun s => @bnd _ _ ((ev S b).s n ρ) ⟨fun t => ret (.nx ((ρ.set i s).set j t))⟩⟩ := (rfl)
@[simp] theorem evS_par3 (i : Nat) (a : Ex) (j : Nat) (b : Ex) (k : Nat) (c : Ex) : evS S (.par3 i a j b k c) ρ = @bnd _ _ ((ev S a).e ρ) ⟨fun p => @bnd _ _ ((ev S b).e ρ) ⟨fun q => @bnd _ _ ((ev S c).e ρ) ⟨fun r => ret (.nx (((ρ.set i (.fz p)).set j (.fz q)).set k (.fz r)))⟩⟩⟩ := (rfl)
@[simp] theorem evS_aug (op : Bop) (i : Nat) (x : Ex) : evS S (.aug op i x) ρ = @bnd _ _ (varM ρ[i]?) ⟨fun p => @bnd _ _ ((ev S x).o ρ) ⟨fun q => @bnd _ _ (augM op p q) ⟨fun r => ret (.nx (ρ.set i (.fz r)))⟩⟩⟩ := (rfl)
@[simp] theorem evS_app (i : Nat) (x : Ex) : evS S (.app i x) ρ = @bnd _ _ (olM ρ[i]?) ⟨fun xs => @bnd _ _ ((ev S x).e ρ) ⟨fun p => req (xs.length < sizeLine) (ret (.nx (ρ.set i (.ol (xs ++ [p])))))⟩⟩ := (rfl)
@[simp] theorem evS_ext (i : Nat) (x : Ex) : evS S (.ext i x) ρ = @bnd _ _ (olM ρ[i]?) ⟨fun xs => @bnd _ _ ((ev S x).e ρ) ⟨fun p => @bnd _ _ (extM xs p) ⟨fun ys => ret (.nx (ρ.set i (.ol ys)))⟩⟩⟩ := (rfl)
@[simp] theorem evS_stoD (i : Nat) (k x : Ex) : evS S (.stoD i k x) ρ = @bnd _ _ ((ev S x).e ρ) ⟨fun p => @bnd _ _ (odM ρ[i]?) ⟨fun xs => @bnd _ _ ((ev S k).e ρ) ⟨fun q => @bnd _ _ (keyM q) ⟨fun j => req (xs.length < sizeLine) (ret (.nx (ρ.set i (.od (dp xs j p)))))⟩⟩⟩⟩ := (rfl)
@[simp] theorem evS_sto (i : Nat) (k x : Ex) : evS S (.sto i k x) ρ = @bnd _ _ ((ev S x).e ρ) ⟨fun p => @bnd _ _ (olM ρ[i]?) ⟨fun xs => @bnd _ _ ((ev S k).e ρ) ⟨fun q => @bnd _ _ (stoM xs q p) ⟨fun ys => ret (.nx (ρ.set i (.ol ys)))⟩⟩⟩⟩ := (rfl)
@[simp] theorem evS_exp (x : Ex) : evS S (.exp x) ρ = @bnd _ _ ((ev S x).e ρ) ⟨fun _ => ret (.nx ρ)⟩ := (rfl)
@[simp] theorem evS_ite (c : Ex) (a b : Sx) : evS S (.ite c a b) ρ = @bnd _ _ ((ev S c).t ρ) ⟨fun k => if k = true then evS S a ρ else evS S b ρ⟩ := (rfl)
@[simp] theorem evS_for (tg : Tg) (src : Ex) (body : Sx) : evS S (.for_ tg src body) ρ = @bnd _ _ ((ev S src).f ρ) ⟨fun items => forL S tg body items ρ⟩ := by unfold forL; rfl
@[simp] theorem evS_whl (c : Ex) (body : Sx) : evS S (.whl c body) ρ = whlL S c body fuel ρ := by unfold whlL; rfl
@[simp] theorem evS_ret (x : Ex) : evS S (.ret x) ρ = @bnd _ _ ((ev S x).e ρ) ⟨fun p => ret (.rt p)⟩ := (rfl)
@[simp] theorem evS_retN  : evS S .retN ρ = ret (.rt .non) := (rfl)
@[simp] theorem evS_rse (c : Nat) : evS S (.rse c) ρ = exn ⟨c, none⟩ := (rfl)
@[simp] theorem evS_dead  : evS S .dead ρ = bad := (rfl)
@[simp] theorem evS_tri (x : Ex) (c i : Nat) (s : Sx) : evS S (.tri x c i s) ρ = @ctc _ _ ((ev S x).e ρ) ⟨fun _ => ret (.nx ρ)⟩ ⟨fun y => req (y.arg = none ∧ S.sb y.cls c = true) (@bnd _ _ (nox (evS S s (ρ.set i (.ex y.cls)))) ⟨triO i⟩)⟩ := (rfl)
@[simp] theorem lk_0 {a0 : Slot} {l : Env'} : (a0 :: l)[0]? = some a0 := (rfl)
@[simp] theorem st_0 {a0 x : Slot} {l : Env'} : List.set (a0 :: l) 0 x = x :: l := (rfl)
@[simp] theorem lk_1 {a0 a1 : Slot} {l : Env'} : (a0 :: a1 :: l)[1]? = some a1 := (rfl)
@[simp] theorem st_1 {a0 a1 x : Slot} {l : Env'} : List.set (a0 :: a1 :: l) 1 x = a0 :: x :: l := (rfl)
@[simp] theorem lk_2 {a0 a1 a2 : Slot} {l : Env'} : (a0 :: a1 :: a2 :: l)[2]? = some a2 := (rfl)
@[simp] theorem st_2 {a0 a1 a2 x : Slot} {l : Env'} : List.set (a0 :: a1 :: a2 :: l) 2 x = a0 :: a1 :: x :: l := (rfl)
@[simp] theorem lk_3 {a0 a1 a2 a3 : Slot} {l : Env'} : (a0 :: a1 :: a2 :: a3 :: l)[3]? = some a3 := (rfl)
@[simp] theorem st_3 {a0 a1 a2 a3 x : Slot} {l : Env'} : List.set (a0 :: a1 :: a2 :: a3 :: l) 3 x = a0 :: a1 :: a2 :: x :: l := (rfl)
@[simp] theorem lk_4 {a0 a1 a2 a3 a4 : Slot} {l : Env'} : (a0 :: a1 :: a2 :: a3 :: a4 :: l)[4]? = some a4 := (rfl)
@[simp] theorem st_4 {a0 a1 a2 a3 a4 x : Slot} {l : Env'} : List.set (a0 :: a1 :: a2 :: a3 :: a4 :: l) 4 x = a0 :: a1 :: a2 :: a3 :: x :: l := (rfl)
@[simp] theorem lk_5 {a0 a1 a2 a3 a4 a5 : Slot} {l : Env'} : (a0 :: a1 :: a2 :: a3 :: a4 :: a5 :: l)[5]? = some a5 := (rfl)
@[simp] theorem st_5 {a0 a1 a2 a3 a4 a5 x : Slot} {l : Env'} : List.set (a0 :: a1 :: a2 :: a3 :: a4 :: a5 :: l) 5 x = a0 :: a1 :: a2 :: a3 :: a4 :: x :: l := (rfl)
@[simp] theorem lk_6 {a0 a1 a2 a3 a4 a5 a6 : Slot} {l : Env'} : (a0 :: a1 :: a2 :: a3 :: a4 :: a5 :: a6 :: l)[6]? = some a6 := (rfl)
@[simp] theorem st_6 {a0 a1 a2 a3 a4 a5 a6 x : Slot} {l : Env'} : List.set (a0 :: a1 :: a2 :: a3 :: a4 :: a5 :: a6 :: l) 6 x = a0 :: a1 :: a2 :: a3 :: a4 :: a5 :: x :: l := (rfl)
@[simp] theorem lk_7 {a0 a1 a2 a3 a4 a5 a6 a7 : Slot} {l : Env'} : (a0 :: a1 :: a2 :: a3 :: a4 :: a5 :: a6 :: a7 :: l)[7]? = some a7 := (rfl)
@[simp] theorem st_7 {a0 a1 a2 a3 a4 a5 a6 a7 x : Slot} {l : Env'} : List.set (a0 :: a1 :: a2 :: a3 :: a4 :: a5 :: a6 :: a7 :: l) 7 x = a0 :: a1 :: a2 :: a3 :: a4 :: a5 :: a6 :: x :: l := (rfl)
@[simp] theorem lk_8 {a0 a1 a2 a3 a4 a5 a6 a7 a8 : Slot} {l : Env'} : (a0 :: a1 :: a2 :: a3 :: a4 :: a5 :: a6 :: a7 :: a8 :: l)[8]? = some a8 := (rfl)
@[simp] theorem st_8 {a0 a1 a2 a3 a4 a5 a6 a7 a8 x : Slot} {l : Env'} : List.set (a0 :: a1 :: a2 :: a3 :: a4 :: a5 :: a6 :: a7 :: a8 :: l) 8 x = a0 :: a1 :: a2 :: a3 :: a4 :: a5 :: a6 :: a7 :: x :: l := (rfl)
@[simp] theorem lk_9 {a0 a1 a2 a3 a4 a5 a6 a7 a8 a9 : Slot} {l : Env'} : (a0 :: a1 :: a2 :: a3 :: a4 :: a5 :: a6 :: a7 :: a8 :: a9 :: l)[9]? = some a9 := (rfl)
@[simp] theorem st_9 {a0 a1 a2 a3 a4 a5 a6 a7 a8 a9 x : Slot} {l : Env'} : List.set (a0 :: a1 :: a2 :: a3 :: a4 :: a5 :: a6 :: a7 :: a8 :: a9 :: l) 9 x = a0 :: a1 :: a2 :: a3 :: a4 :: a5 :: a6 :: a7 :: a8 :: x :: l := (rfl)
@[simp] theorem lk_10 {a0 a1 a2 a3 a4 a5 a6 a7 a8 a9 a10 : Slot} {l : Env'} : (a0 :: a1 :: a2 :: a3 :: a4 :: a5 :: a6 :: a7 :: a8 :: a9 :: a10 :: l)[10]? = some a10 := (rfl)
@[simp] theorem st_10 {a0 a1 a2 a3 a4 a5 a6 a7 a8 a9 a10 x : Slot} {l : Env'} : List.set (a0 :: a1 :: a2 :: a3 :: a4 :: a5 :: a6 :: a7 :: a8 :: a9 :: a10 :: l) 10 x = a0 :: a1 :: a2 :: a3 :: a4 :: a5 :: a6 :: a7 :: a8 :: a9 :: x :: l := (rfl)
@[simp] theorem lk_11 {a0 a1 a2 a3 a4 a5 a6 a7 a8 a9 a10 a11 : Slot} {l : Env'} : (a0 :: a1 :: a2 :: a3 :: a4 :: a5 :: a6 :: a7 :: a8 :: a9 :: a10 :: a11 :: l)[11]? = some a11 := (rfl)
@[simp] theorem st_11 {a0 a1 a2 a3 a4 a5 a6 a7 a8 a9 a10 a11 x : Slot} {l : Env'} : List.set (a0 :: a1 :: a2 :: a3 :: a4 :: a5 :: a6 :: a7 :: a8 :: a9 :: a10 :: a11 :: l) 11 x = a0 :: a1 :: a2 :: a3 :: a4 :: a5 :: a6 :: a7 :: a8 :: a9 :: a10 :: x :: l := (rfl)
@[simp] theorem lk_12 {a0 a1 a2 a3 a4 a5 a6 a7 a8 a9 a10 a11 a12 : Slot} {l : Env'} : (a0 :: a1 :: a2 :: a3 :: a4 :: a5 :: a6 :: a7 :: a8 :: a9 :: a10 :: a11 :: a12 :: l)[12]? = some a12 := (rfl)
@[simp] theorem st_12 {a0 a1 a2 a3 a4 a5 a6 a7 a8 a9 a10 a11 a12 x : Slot} {l : Env'} : List.set (a0 :: a1 :: a2 :: a3 :: a4 :: a5 :: a6 :: a7 :: a8 :: a9 :: a10 :: a11 :: a12 :: l) 12 x = a0 :: a1 :: a2 :: a3 :: a4 :: a5 :: a6 :: a7 :: a8 :: a9 :: a10 :: a11 :: x :: l := (rfl)
@[simp] theorem lk_13 {a0 a1 a2 a3 a4 a5 a6 a7 a8 a9 a10 a11 a12 a13 : Slot} {l : Env'} : (a0 :: a1 :: a2 :: a3 :: a4 :: a5 :: a6 :: a7 :: a8 :: a9 :: a10 :: a11 :: a12 :: a13 :: l)[13]? = some a13 := (rfl)
@[simp] theorem st_13 {a0 a1 a2 a3 a4 a5 a6 a7 a8 a9 a10 a11 a12 a13 x : Slot} {l : Env'} : List.set (a0 :: a1 :: a2 :: a3 :: a4 :: a5 :: a6 :: a7 :: a8 :: a9 :: a10 :: a11 :: a12 :: a13 :: l) 13 x = a0 :: a1 :: a2 :: a3 :: a4 :: a5 :: a6 :: a7 :: a8 :: a9 :: a10 :: a11 :: a12 :: x :: l := (rfl)
@[simp] theorem lk_14 {a0 a1 a2 a3 a4 a5 a6 a7 a8 a9 a10 a11 a12 a13 a14 : Slot} {l : Env'} : (a0 :: a1 :: a2 :: a3 :: a4 :: a5 :: a6 :: a7 :: a8 :: a9 :: a10 :: a11 :: a12 :: a13 :: a14 :: l)[14]? = some a14 := (rfl)
@[simp] theorem st_14 {a0 a1 a2 a3 a4 a5 a6 a7 a8 a9 a10 a11 a12 a13 a14 x : Slot} {l : Env'} : List.set (a0 :: a1 :: a2 :: a3 :: a4 :: a5 :: a6 :: a7 :: a8 :: a9 :: a10 :: a11 :: a12 :: a13 :: a14 :: l) 14 x = a0 :: a1 :: a2 :: a3 :: a4 :: a5 :: a6 :: a7 :: a8 :: a9 :: a10 :: a11 :: a12 :: a13 :: x :: l := (rfl)
@[simp] theorem lk_15 {a0 a1 a2 a3 a4 a5 a6 a7 a8 a9 a10 a11 a12 a13 a14 a15 : Slot} {l : Env'} : (a0 :: a1 :: a2 :: a3 :: a4 :: a5 :: a6 :: a7 :: a8 :: a9 :: a10 :: a11 :: a12 :: a13 :: a14 :: a15 :: l)[15]? = some a15 := (rfl)
@[simp] theorem st_15 {a0 a1 a2 a3 a4 a5 a6 a7 a8 a9 a10 a11 a12 a13 a14 a15 x : Slot} {l : Env'} : List.set (a0 :: a1 :: a2 :: a3 :: a4 :: a5 :: a6 :: a7 :: a8 :: a9 :: a10 :: a11 :: a12 :: a13 :: a14 :: a15 :: l) 15 x = a0 :: a1 :: a2 :: a3 :: a4 :: a5 :: a6 :: a7 :: a8 :: a9 :: a10 :: a11 :: a12 :: a13 :: a14 :: x :: l := (rfl)
@[simp] theorem lk_16 {a0 a1 a2 a3 a4 a5 a6 a7 a8 a9 a10 a11 a12 a13 a14 a15 a16 : Slot} {l : Env'} : (a0 :: a1 :: a2 :: a3 :: a4 :: a5 :: a6 :: a7 :: a8 :: a9 :: a10 :: a11 :: a12 :: a13 :: a14 :: a15 :: a16 :: l)[16]? = some a16 := (rfl)
@[simp] theorem st_16 {a0 a1 a2 a3 a4 a5 a6 a7 a8 a9 a10 a11 a12 a13 a14 a15 a16 x : Slot} {l : Env'} : List.set (a0 :: a1 :: a2 :: a3 :: a4 :: a5 :: a6 :: a7 :: a8 :: a9 :: a10 :: a11 :: a12 :: a13 :: a14 :: a15 :: a16 :: l) 16 x = a0 :: a1 :: a2 :: a3 :: a4 :: a5 :: a6 :: a7 :: a8 :: a9 :: a10 :: a11 :: a12 :: a13 :: a14 :: a15 :: x :: l := (rfl)
@[simp] theorem lk_17 {a0 a1 a2 a3 a4 a5 a6 a7 a8 a9 a10 a11 a12 a13 a14 a15 a16 a17 : Slot} {l : Env'} : (a0 :: a1 :: a2 :: a3 :: a4 :: a5 :: a6 :: a7 :: a8 :: a9 :: a10 :: a11 :: a12 :: a13 :: a14 :: a15 :: a16 :: a17 :: l)[17]? = some a17 := (rfl)
@[simp] theorem st_17 {a0 a1 a2 a3 a4 a5 a6 a7 a8 a9 a10 a11 a12 a13 a14 a15 a16 a17 x : Slot} {l : Env'} : List.set (a0 :: a1 :: a2 :: a3 :: a4 :: a5 :: a6 :: a7 :: a8 :: a9 :: a10 :: a11 :: a12 :: a13 :: a14 :: a15 :: a16 :: a17 :: l) 17 x = a0 :: a1 :: a2 :: a3 :: a4 :: a5 :: a6 :: a7 :: a8 :: a9 :: a10 :: a11 :: a12 :: a13 :: a14 :: a15 :: a16 :: x :: l := (rfl)
@[simp] theorem lk_18 {a0 a1 a2 a3 a4 a5 a6 a7 a8 a9 a10 a11 a12 a13 a14 a15 a16 a17 a18 : Slot} {l : Env'} : (a0 :: a1 :: a2 :: a3 :: a4 :: a5 :: a6 :: a7 :: a8 :: a9 :: a10 :: a11 :: a12 :: a13 :: a14 :: a15 :: a16 :: a17 :: a18 :: l)[18]? = some a18 := (rfl)
@[simp] theorem st_18 {a0 a1 a2 a3 a4 a5 a6 a7 a8 a9 a10 a11 a12 a13 a14 a15 a16 a17 a18 x : Slot} {l : Env'} : List.set (a0 :: a1 :: a2 :: a3 :: a4 :: a5 :: a6 :: a7 :: a8 :: a9 :: a10 :: a11 :: a12 :: a13 :: a14 :: a15 :: a16 :: a17 :: a18 :: l) 18 x = a0 :: a1 :: a2 :: a3 :: a4 :: a5 :: a6 :: a7 :: a8 :: a9 :: a10 :: a11 :: a12 :: a13 :: a14 :: a15 :: a16 :: a17 :: x :: l := (rfl)
@[simp] theorem lk_19 {a0 a1 a2 a3 a4 a5 a6 a7 a8 a9 a10 a11 a12 a13 a14 a15 a16 a17 a18 a19 : Slot} {l : Env'} : (a0 :: a1 :: a2 :: a3 :: a4 :: a5 :: a6 :: a7 :: a8 :: a9 :: a10 :: a11 :: a12 :: a13 :: a14 :: a15 :: a16 :: a17 :: a18 :: a19 :: l)[19]? = some a19 := (rfl)
@[simp] theorem st_19 {a0 a1 a2 a3 a4 a5 a6 a7 a8 a9 a10 a11 a12 a13 a14 a15 a16 a17 a18 a19 x : Slot} {l : Env'} : List.set (a0 :: a1 :: a2 :: a3 :: a4 :: a5 :: a6 :: a7 :: a8 :: a9 :: a10 :: a11 :: a12 :: a13 :: a14 :: a15 :: a16 :: a17 :: a18 :: a19 :: l) 19 x = a0 :: a1 :: a2 :: a3 :: a4 :: a5 :: a6 :: a7 :: a8 :: a9 :: a10 :: a11 :: a12 :: a13 :: a14 :: a15 :: a16 :: a17 :: a18 :: x :: l := (rfl)
@[simp] theorem lk_20 {a0 a1 a2 a3 a4 a5 a6 a7 a8 a9 a10 a11 a12 a13 a14 a15 a16 a17 a18 a19 a20 : Slot} {l : Env'} : (a0 :: a1 :: a2 :: a3 :: a4 :: a5 :: a6 :: a7 :: a8 :: a9 :: a10 :: a11 :: a12 :: a13 :: a14 :: a15 :: a16 :: a17 :: a18 :: a19 :: a20 :: l)[20]? = some a20 := (rfl)
@[simp] theorem st_20 {a0 a1 a2 a3 a4 a5 a6 a7 a8 a9 a10 a11 a12 a13 a14 a15 a16 a17 a18 a19 a20 x : Slot} {l : Env'} : List.set (a0 :: a1 :: a2 :: a3 :: a4 :: a5 :: a6 :: a7 :: a8 :: a9 :: a10 :: a11 :: a12 :: a13 :: a14 :: a15 :: a16 :: a17 :: a18 :: a19 :: a20 :: l) 20 x = a0 :: a1 :: a2 :: a3 :: a4 :: a5 :: a6 :: a7 :: a8 :: a9 :: a10 :: a11 :: a12 :: a13 :: a14 :: a15 :: a16 :: a17 :: a18 :: a19 :: x :: l := (rfl)
@[simp] theorem lk_21 {a0 a1 a2 a3 a4 a5 a6 a7 a8 a9 a10 a11 a12 a13 a14 a15 a16 a17 a18 a19 a20 a21 : Slot} {l : Env'} : (a0 :: a1 :: a2 :: a3 :: a4 :: a5 :: a6 :: a7 :: a8 :: a9 :: a10 :: a11 :: a12 :: a13 :: a14 :: a15 :: a16 :: a17 :: a18 :: a19 :: a20 :: a21 :: l)[21]? = some a21 := (rfl)
@[simp] theorem st_21 {a0 a1 a2 a3 a4 a5 a6 a7 a8 a9 a10 a11 a12 a13 a14 a15 a16 a17 a18 a19 a20 a21 x : Slot} {l : Env'} : List.set (a0 :: a1 :: a2 :: a3 :: a4 :: a5 :: a6 :: a7 :: a8 :: a9 :: a10 :: a11 :: a12 :: a13 :: a14 :: a15 :: a16 :: a17 :: a18 :: a19 :: a20 :: a21 :: l) 21 x = a0 :: a1 :: a2 :: a3 :: a4 :: a5 :: a6 :: a7 :: a8 :: a9 :: a10 :: a11 :: a12 :: a13 :: a14 :: a15 :: a16 :: a17 :: a18 :: a19 :: a20 :: x :: l := (rfl)
@[simp] theorem lk_22 {a0 a1 a2 a3 a4 a5 a6 a7 a8 a9 a10 a11 a12 a13 a14 a15 a16 a17 a18 a19 a20 a21 a22 : Slot} {l : Env'} : (a0 :: a1 :: a2 :: a3 :: a4 :: a5 :: a6 :: a7 :: a8 :: a9 :: a10 :: a11 :: a12 :: a13 :: a14 :: a15 :: a16 :: a17 :: a18 :: a19 :: a20 :: a21 :: a22 :: l)[22]? = some a22 := (rfl)
@[simp] theorem st_22 {a0 a1 a2 a3 a4 a5 a6 a7 a8 a9 a10 a11 a12 a13 a14 a15 a16 a17 a18 a19 a20 a21 a22 x : Slot} {l : Env'} : List.set (a0 :: a1 :: a2 :: a3 :: a4 :: a5 :: a6 :: a7 :: a8 :: a9 :: a10 :: a11 :: a12 :: a13 :: a14 :: a15 :: a16 :: a17 :: a18 :: a19 :: a20 :: a21 :: a22 :: l) 22 x = a0 :: a1 :: a2 :: a3 :: a4 :: a5 :: a6 :: a7 :: a8 :: a9 :: a10 :: a11 :: a12 :: a13 :: a14 :: a15 :: a16 :: a17 :: a18 :: a19 :: a20 :: a21 :: x :: l := (rfl)
@[simp] theorem lk_23 {a0 a1 a2 a3 a4 a5 a6 a7 a8 a9 a10 a11 a12 a13 a14 a15 a16 a17 a18 a19 a20 a21 a22 a23 : Slot} {l : Env'} : (a0 :: a1 :: a2 :: a3 :: a4 :: a5 :: a6 :: a7 :: a8 :: a9 :: a10 :: a11 :: a12 :: a13 :: a14 :: a15 :: a16 :: a17 :: a18 :: a19 :: a20 :: a21 :: a22 :: a23 :: l)[23]? = some a23 := (rfl)
@[simp] theorem st_23 {a0 a1 a2 a3 a4 a5 a6 a7 a8 a9 a10 a11 a12 a13 a14 a15 a16 a17 a18 a19 a20 a21 a22 a23 x : Slot} {l : Env'} : List.set (a0 :: a1 :: a2 :: a3 :: a4 :: a5 :: a6 :: a7 :: a8 :: a9 :: a10 :: a11 :: a12 :: a13 :: a14 :: a15 :: a16 :: a17 :: a18 :: a19 :: a20 :: a21 :: a22 :: a23 :: l) 23 x = a0 :: a1 :: a2 :: a3 :: a4 :: a5 :: a6 :: a7 :: a8 :: a9 :: a10 :: a11 :: a12 :: a13 :: a14 :: a15 :: a16 :: a17 :: a18 :: a19 :: a20 :: a21 :: a22 :: x :: l := (rfl)
@[simp] theorem lk_24 {a0 a1 a2 a3 a4 a5 a6 a7 a8 a9 a10 a11 a12 a13 a14 a15 a16 a17 a18 a19 a20 a21 a22 a23 a24 : Slot} {l : Env'} : (a0 :: a1 :: a2 :: a3 :: a4 :: a5 :: a6 :: a7 :: a8 :: a9 :: a10 :: a11 :: a12 :: a13 :: a14 :: a15 :: a16 :: a17 :: a18 :: a19 :: a20 :: a21 :: a22 :: a23 :: a24 :: l)[24]? = some a24 := (rfl)
@[simp] theorem st_24 {a0 a1 a2 a3 a4 a5 a6 a7 a8 a9 a10 a11 a12 a13 a14 a15 a16 a17 a18 a19 a20 a21 a22 a23 a24 x : Slot} {l : Env'} : List.set (a0 :: a1 :: a2 :: a3 :: a4 :: a5 :: a6 :: a7 :: a8 :: a9 :: a10 :: a11 :: a12 :: a13 :: a14 :: a15 :: a16 :: a17 :: a18 :: a19 :: a20 :: a21 :: a22 :: a23 :: a24 :: l) 24 x = a0 :: a1 :: a2 :: a3 :: a4 :: a5 :: a6 :: a7 :: a8 :: a9 :: a10 :: a11 :: a12 :: a13 :: a14 :: a15 :: a16 :: a17 :: a18 :: a19 :: a20 :: a21 :: a22 :: a23 :: x :: l := (rfl)
@[simp] theorem lk_25 {a0 a1 a2 a3 a4 a5 a6 a7 a8 a9 a10 a11 a12 a13 a14 a15 a16 a17 a18 a19 a20 a21 a22 a23 a24 a25 : Slot} {l : Env'} : (a0 :: a1 :: a2 :: a3 :: a4 :: a5 :: a6 :: a7 :: a8 :: a9 :: a10 :: a11 :: a12 :: a13 :: a14 :: a15 :: a16 :: a17 :: a18 :: a19 :: a20 :: a21 :: a22 :: a23 :: a24 :: a25 :: l)[25]? = some a25 := (rfl)
@[simp] theorem st_25 {a0 a1 a2 a3 a4 a5 a6 a7 a8 a9 a10 a11 a12 a13 a14 a15 a16 a17 a18 a19 a20 a21 a22 a23 a24 a25 x : Slot} {l : Env'} : List.set (a0 :: a1 :: a2 :: a3 :: a4 :: a5 :: a6 :: a7 :: a8 :: a9 :: a10 :: a11 :: a12 :: a13 :: a14 :: a15 :: a16 :: a17 :: a18 :: a19 :: a20 :: a21 :: a22 :: a23 :: a24 :: a25 :: l) 25 x = a0 :: a1 :: a2 :: a3 :: a4 :: a5 :: a6 :: a7 :: a8 :: a9 :: a10 :: a11 :: a12 :: a13 :: a14 :: a15 :: a16 :: a17 :: a18 :: a19 :: a20 :: a21 :: a22 :: a23 :: a24 :: x :: l := (rfl)
end
end Rk

set_option maxHeartbeats 4000000
namespace Rk
open PySem PySem.Spec PyProof.Rows L2 M
def MSig.add (S : MSig) (j : Nat) (F : MF) : MSig := ⟨fun i => bif Nat.beq i j then F else S.F i, S.cn, S.wd, S.sb, S.tk⟩
def MSig.addW (S : MSig) (j : Nat) (F : MW) : MSig := ⟨S.F, S.cn, fun i => bif Nat.beq i j then F else S.wd i, S.sb, S.tk⟩
/-- RiskError is the class 0, every other one stands by itself below it -/
def sb0 (k j : Nat) : Bool := decide (j = 0) || decide (k = j)
@[simp] theorem sb0_ (k j : Nat) : sb0 k j = (decide (j = 0) || decide (k = j)) := (rfl)
theorem add_sb (S : MSig) (j : Nat) (F : MF) : (S.add j F).sb = S.sb := rfl
theorem addW_sb (S : MSig) (j : Nat) (F : MW) : (S.addW j F).sb = S.sb := rfl
theorem addW_cn (S : MSig) (j : Nat) (F : MW) : (S.addW j F).cn = S.cn := rfl
theorem add_cn (S : MSig) (j : Nat) (F : MF) : (S.add j F).cn = S.cn := rfl
theorem mf_u {S : MSig} {nl ar : Nat} {sx : Sx} {as : List PV} {ρ : Env'} (hl : as.length = ar) (he : entry nl as = ρ) : (mfOf S nl ar sx).f as = bind (evS S sx ρ) fin := by
  subst he
  exact if_pos hl
/-- the hand: it may be anywhere -/
def handM : List PV → M PV
  | [.scr _] => .hand fun a c => ret (.tok a c)
  | _ => bad
def handF : MF where
  ar := 1
  f := handM
  len := fun as Q E h => by
    unfold handM at h
    split at h
    · rfl
    · exact h.elim
theorem handF_ok {as : List PV} {Q : PV → Prop} {E : Exn → Prop} (h : handF.spec.run as Q E) : handSpec.run as Q E := by
  have h : (handM as).wp Q E := h
  unfold handM at h
  split at h
  · rename_i ns _
    exact ⟨ns, rfl, h⟩
  · exact h.elim
end Rk

set_option maxHeartbeats 4000000
namespace Rk
open PySem PySem.Spec PyProof.Rows L2 M
/-! ### sizes of ints -/
/-- at most k binary figures -/
def Sz (k : Nat) (i : Int) : Prop := i.natAbs < 2 ^ k
theorem Sz.mono {k l : Nat} {i : Int} (h : Sz k i) (hl : k ≤ l) : Sz l i := Nat.lt_of_lt_of_le h (Nat.pow_le_pow_right (by omega) hl)
theorem Sz.bits {k : Nat} {i : Int} (h : Sz k i) : Builtin.Int.intBits i ≤ k := by
  unfold Builtin.Int.intBits
  split
  · exact Nat.zero_le _
  · rename_i hz
    have hz : i.natAbs ≠ 0 := by
      intro z
      simp at hz
      omega
    have := (Nat.log2_lt hz).mpr h
    omega
theorem Sz.mulOk {k l : Nat} {i j : Int} (h : Sz k i) (g : Sz l j) (hs : k + l ≤ 100000000) : IntMulOk i j := IntMulOk.of_le h.bits g.bits (by omega)
theorem Sz.mul {k l : Nat} {i j : Int} (h : Sz k i) (g : Sz l j) : Sz (k + l) (i * j) := by
  unfold Sz at *
  rw [Int.natAbs_mul, Nat.pow_add]
  exact Nat.mul_lt_mul'' h g
theorem Sz.add {k : Nat} {i j : Int} (h : Sz k i) (g : Sz k j) : Sz (k + 1) (i + j) := by
  unfold Sz at *
  rw [Nat.pow_succ]
  omega
theorem Sz.neg {k : Nat} {i : Int} (h : Sz k i) : Sz k (-i) := by
  unfold Sz at *
  rw [Int.natAbs_neg]
  exact h
theorem Sz.sub {k : Nat} {i j : Int} (h : Sz k i) (g : Sz k j) : Sz (k + 1) (i - j) := by
  rw [Int.sub_eq_add_neg]
  exact h.add g.neg
theorem Sz.log2 {k : Nat} {i : Int} (h : Sz k i) (hk : k ≤ 9000) (k0 : 0 < k) : i.natAbs.log2 < 9000 := by
  rcases Nat.eq_zero_or_pos i.natAbs with z | z
  · rw [z]
    simp
  · have := (Nat.log2_lt (by omega)).mpr h
    omega
theorem Sz.of_lt {k : Nat} {i : Int} (h1 : -(2 ^ k : Int) < i) (h2 : i < (2 ^ k : Int)) : Sz k i := by
  unfold Sz
  have e : ((2 ^ k : Nat) : Int) = (2 : Int) ^ k := by simp
  omega
theorem sz64 {i : Int} (h1 : -(2 ^ 64) < i) (h2 : i < 2 ^ 64) : Sz 64 i := Sz.of_lt h1 h2
theorem Sz.le_abs {k : Nat} {i j : Int} (h : Sz k i) (hj : j.natAbs ≤ i.natAbs) : Sz k j := Nat.lt_of_le_of_lt hj h
theorem log2_ok {j : Int} (h1 : -(2 ^ 200) < j) (h2 : j < 2 ^ 200) : j.natAbs.log2 < 9000 := by
  have : Sz 200 j := Sz.of_lt h1 h2
  exact this.log2 (by decide) (by decide)
theorem fuel_gt {b : Nat} (h : b < 2 ^ 100000) : ∃ n, fuel = n + b + 1 := by
  have h2 : 2 ^ 100000 ≤ fuel := by
    unfold fuel
    exact Nat.pow_le_pow_right (by omega) (by omega)
  exact ⟨fuel - b - 1, by omega⟩
theorem fuel_sz {k : Nat} {b : Int} (h : Sz k b) (hk : k ≤ 100000) : ∃ n, fuel = n + b.natAbs + 1 := fuel_gt (Nat.lt_of_lt_of_le h (Nat.pow_le_pow_right (by omega) hk))

/-- Euclid, by the loop common_part leads -/
theorem gcd_turn {a b : Int} (hb : b ≠ 0) : a - b * a.fdiv b = a.fmod b := by
  have := Int.mul_fdiv_add_fmod a b
  omega
def gcdBody : Sx := (.seq (.par false 0 (.var 1) false 1 (.bin .sub (.var 0) (.bin .mul (.var 1) (.bin .fdv (.var 0) (.var 1))))) .nil)
theorem gcd_loop {S : MSig} {k : Nat} (hk : k ≤ 9000) (k0 : 0 < k) : ∀ (n a b : Nat), b < n → a < 2 ^ k → b < 2 ^ k →
    whlL S (.cmp .ne (.var 1) (.int 0)) gcdBody n [.fz (.int a), .fz (.int b)] = ret (.nx [.fz (.int (Nat.gcd a b)), .fz (.int 0)])
  | 0, a, b, h, _, _ => by omega
  | n + 1, a, b, h, ha, hb => by
    rw [whl_succ]
    by_cases z : b = 0
    · subst z
      simp
    · have zi : ¬ ((b : Int) = 0) := by omega
      have sb : Sz k (b : Int) := hb
      have l2 : b.log2 < 9000 := by
        have := sb.log2 hk k0
        simpa using this
      have hm : IntMulOk (b : Int) ((a : Int).fdiv b) := by
        refine Sz.mulOk (k := k) (l := k) sb (Nat.lt_of_le_of_lt ?_ ha) (by omega)
        rw [Int.fdiv_eq_ediv_of_nonneg _ (by omega)]
        have : (a : Int) / b = ((a / b : Nat) : Int) := by simp
        rw [this, Int.natAbs_natCast]
        exact Nat.div_le_self _ _
      simp [z, gcdBody, l2, req_of hm, gcd_turn zi]
      have lt : a % b < b := Nat.mod_lt _ (by omega)
      have e : (a : Int).fmod b = ((a % b : Nat) : Int) := by
        rw [Int.fmod_eq_emod_of_nonneg _ (by omega)]
        simp
      rw [e]
      have ih := gcd_loop (S := S) hk k0 n b (a % b) (by omega) hb (by omega)
      unfold gcdBody at ih
      rw [ih]
      rw [show Nat.gcd b (a % b) = Nat.gcd a b by rw [Nat.gcd_comm a b, Nat.gcd_rec b a]; rw [Nat.gcd_comm]]
end Rk
namespace Rk
open PySem PySem.Spec PyProof.Rows L2 M
theorem for_inv {S : MSig} {tg : Tg} {body : Sx} {I : Env' → Prop} {E : Exn → Prop} : ∀ (items : List PV), (∀ x, x ∈ items → ∀ ρ, I ρ → (@bnd _ _ ((tgM tg).one x ρ) ⟨fun ρ' => evS S body ρ'⟩).wp (fun o => ∃ ρ', o = .nx ρ' ∧ I ρ') E) →
    ∀ ρ, I ρ → (forL S tg body items ρ).wp (fun o => ∃ ρ', o = .nx ρ' ∧ I ρ') E
  | [], h, ρ, i => by
    rw [for_nil]
    exact ⟨ρ, rfl, i⟩
  | x :: xs, h, ρ, i => by
    have h1 := h x List.mem_cons_self ρ i
    rw [for_cons, wp_bd]
    rw [wp_bd] at h1
    refine wp_mono (fun ρ1 h1 => ?_) (fun _ z => z) _ h1
    show (@bnd _ _ (evS S body ρ1) ⟨Oc.lp fun ρ2 => forL S tg body xs ρ2⟩).wp _ _
    rw [wp_bd]
    refine wp_mono (fun o ho => ?_) (fun _ z => z) _ h1
    obtain ⟨ρ2, rfl, i2⟩ := ho
    exact for_inv xs (fun y hy => h y (List.mem_cons_of_mem _ hy)) ρ2 i2
theorem len_cons {n : Nat} {l : Env'} (h : l.length = n + 1) : ∃ x r, l = x :: r ∧ r.length = n := by
  cases l with
  | nil => simp at h
  | cons x r => exact ⟨x, r, rfl, by simpa using h⟩
theorem len_nil {l : Env'} (h : l.length = 0) : l = [] := List.eq_nil_of_length_eq_zero h
theorem lenn_0 {l : Env'} (h : l.length = 0) : l = [] := len_nil h
theorem lenn_1 {l : Env'} (h : l.length = 1) : ∃ x0, l = [x0] := by
  obtain ⟨x0, r, rfl, h1⟩ := len_cons h
  rw [len_nil h1]
  exact ⟨x0, rfl⟩
theorem lenn_2 {l : Env'} (h : l.length = 2) : ∃ x0 x1, l = [x0, x1] := by
  obtain ⟨x0, r, rfl, h1⟩ := len_cons h
  obtain ⟨x1, rfl⟩ := lenn_1 h1
  exact ⟨x0, x1, rfl⟩
theorem lenn_3 {l : Env'} (h : l.length = 3) : ∃ x0 x1 x2, l = [x0, x1, x2] := by
  obtain ⟨x0, r, rfl, h1⟩ := len_cons h
  obtain ⟨x1, x2, rfl⟩ := lenn_2 h1
  exact ⟨x0, x1, x2, rfl⟩
theorem lenn_4 {l : Env'} (h : l.length = 4) : ∃ x0 x1 x2 x3, l = [x0, x1, x2, x3] := by
  obtain ⟨x0, r, rfl, h1⟩ := len_cons h
  obtain ⟨x1, x2, x3, rfl⟩ := lenn_3 h1
  exact ⟨x0, x1, x2, x3, rfl⟩
theorem lenn_5 {l : Env'} (h : l.length = 5) : ∃ x0 x1 x2 x3 x4, l = [x0, x1, x2, x3, x4] := by
  obtain ⟨x0, r, rfl, h1⟩ := len_cons h
  obtain ⟨x1, x2, x3, x4, rfl⟩ := lenn_4 h1
  exact ⟨x0, x1, x2, x3, x4, rfl⟩
theorem lenn_6 {l : Env'} (h : l.length = 6) : ∃ x0 x1 x2 x3 x4 x5, l = [x0, x1, x2, x3, x4, x5] := by
  obtain ⟨x0, r, rfl, h1⟩ := len_cons h
  obtain ⟨x1, x2, x3, x4, x5, rfl⟩ := lenn_5 h1
  exact ⟨x0, x1, x2, x3, x4, x5, rfl⟩
theorem lenn_7 {l : Env'} (h : l.length = 7) : ∃ x0 x1 x2 x3 x4 x5 x6, l = [x0, x1, x2, x3, x4, x5, x6] := by
  obtain ⟨x0, r, rfl, h1⟩ := len_cons h
  obtain ⟨x1, x2, x3, x4, x5, x6, rfl⟩ := lenn_6 h1
  exact ⟨x0, x1, x2, x3, x4, x5, x6, rfl⟩
theorem lenn_8 {l : Env'} (h : l.length = 8) : ∃ x0 x1 x2 x3 x4 x5 x6 x7, l = [x0, x1, x2, x3, x4, x5, x6, x7] := by
  obtain ⟨x0, r, rfl, h1⟩ := len_cons h
  obtain ⟨x1, x2, x3, x4, x5, x6, x7, rfl⟩ := lenn_7 h1
  exact ⟨x0, x1, x2, x3, x4, x5, x6, x7, rfl⟩
theorem lenn_9 {l : Env'} (h : l.length = 9) : ∃ x0 x1 x2 x3 x4 x5 x6 x7 x8, l = [x0, x1, x2, x3, x4, x5, x6, x7, x8] := by
  obtain ⟨x0, r, rfl, h1⟩ := len_cons h
  obtain ⟨x1, x2, x3, x4, x5, x6, x7, x8, rfl⟩ := lenn_8 h1
  exact ⟨x0, x1, x2, x3, x4, x5, x6, x7, x8, rfl⟩
theorem lenn_10 {l : Env'} (h : l.length = 10) : ∃ x0 x1 x2 x3 x4 x5 x6 x7 x8 x9, l = [x0, x1, x2, x3, x4, x5, x6, x7, x8, x9] := by
  obtain ⟨x0, r, rfl, h1⟩ := len_cons h
  obtain ⟨x1, x2, x3, x4, x5, x6, x7, x8, x9, rfl⟩ := lenn_9 h1
  exact ⟨x0, x1, x2, x3, x4, x5, x6, x7, x8, x9, rfl⟩
theorem lenn_11 {l : Env'} (h : l.length = 11) : ∃ x0 x1 x2 x3 x4 x5 x6 x7 x8 x9 x10, l = [x0, x1, x2, x3, x4, x5, x6, x7, x8, x9, x10] := by
  obtain ⟨x0, r, rfl, h1⟩ := len_cons h
  obtain ⟨x1, x2, x3, x4, x5, x6, x7, x8, x9, x10, rfl⟩ := lenn_10 h1
  exact ⟨x0, x1, x2, x3, x4, x5, x6, x7, x8, x9, x10, rfl⟩
theorem lenn_12 {l : Env'} (h : l.length = 12) : ∃ x0 x1 x2 x3 x4 x5 x6 x7 x8 x9 x10 x11, l = [x0, x1, x2, x3, x4, x5, x6, x7, x8, x9, x10, x11] := by
  obtain ⟨x0, r, rfl, h1⟩ := len_cons h
  obtain ⟨x1, x2, x3, x4, x5, x6, x7, x8, x9, x10, x11, rfl⟩ := lenn_11 h1
  exact ⟨x0, x1, x2, x3, x4, x5, x6, x7, x8, x9, x10, x11, rfl⟩
theorem lenn_13 {l : Env'} (h : l.length = 13) : ∃ x0 x1 x2 x3 x4 x5 x6 x7 x8 x9 x10 x11 x12, l = [x0, x1, x2, x3, x4, x5, x6, x7, x8, x9, x10, x11, x12] := by
  obtain ⟨x0, r, rfl, h1⟩ := len_cons h
  obtain ⟨x1, x2, x3, x4, x5, x6, x7, x8, x9, x10, x11, x12, rfl⟩ := lenn_12 h1
  exact ⟨x0, x1, x2, x3, x4, x5, x6, x7, x8, x9, x10, x11, x12, rfl⟩
theorem lenn_14 {l : Env'} (h : l.length = 14) : ∃ x0 x1 x2 x3 x4 x5 x6 x7 x8 x9 x10 x11 x12 x13, l = [x0, x1, x2, x3, x4, x5, x6, x7, x8, x9, x10, x11, x12, x13] := by
  obtain ⟨x0, r, rfl, h1⟩ := len_cons h
  obtain ⟨x1, x2, x3, x4, x5, x6, x7, x8, x9, x10, x11, x12, x13, rfl⟩ := lenn_13 h1
  exact ⟨x0, x1, x2, x3, x4, x5, x6, x7, x8, x9, x10, x11, x12, x13, rfl⟩
theorem lenn_15 {l : Env'} (h : l.length = 15) : ∃ x0 x1 x2 x3 x4 x5 x6 x7 x8 x9 x10 x11 x12 x13 x14, l = [x0, x1, x2, x3, x4, x5, x6, x7, x8, x9, x10, x11, x12, x13, x14] := by
  obtain ⟨x0, r, rfl, h1⟩ := len_cons h
  obtain ⟨x1, x2, x3, x4, x5, x6, x7, x8, x9, x10, x11, x12, x13, x14, rfl⟩ := lenn_14 h1
  exact ⟨x0, x1, x2, x3, x4, x5, x6, x7, x8, x9, x10, x11, x12, x13, x14, rfl⟩
theorem lenn_16 {l : Env'} (h : l.length = 16) : ∃ x0 x1 x2 x3 x4 x5 x6 x7 x8 x9 x10 x11 x12 x13 x14 x15, l = [x0, x1, x2, x3, x4, x5, x6, x7, x8, x9, x10, x11, x12, x13, x14, x15] := by
  obtain ⟨x0, r, rfl, h1⟩ := len_cons h
  obtain ⟨x1, x2, x3, x4, x5, x6, x7, x8, x9, x10, x11, x12, x13, x14, x15, rfl⟩ := lenn_15 h1
  exact ⟨x0, x1, x2, x3, x4, x5, x6, x7, x8, x9, x10, x11, x12, x13, x14, x15, rfl⟩
theorem lenn_17 {l : Env'} (h : l.length = 17) : ∃ x0 x1 x2 x3 x4 x5 x6 x7 x8 x9 x10 x11 x12 x13 x14 x15 x16, l = [x0, x1, x2, x3, x4, x5, x6, x7, x8, x9, x10, x11, x12, x13, x14, x15, x16] := by
  obtain ⟨x0, r, rfl, h1⟩ := len_cons h
  obtain ⟨x1, x2, x3, x4, x5, x6, x7, x8, x9, x10, x11, x12, x13, x14, x15, x16, rfl⟩ := lenn_16 h1
  exact ⟨x0, x1, x2, x3, x4, x5, x6, x7, x8, x9, x10, x11, x12, x13, x14, x15, x16, rfl⟩
theorem lenn_18 {l : Env'} (h : l.length = 18) : ∃ x0 x1 x2 x3 x4 x5 x6 x7 x8 x9 x10 x11 x12 x13 x14 x15 x16 x17, l = [x0, x1, x2, x3, x4, x5, x6, x7, x8, x9, x10, x11, x12, x13, x14, x15, x16, x17] := by
  obtain ⟨x0, r, rfl, h1⟩ := len_cons h
  obtain ⟨x1, x2, x3, x4, x5, x6, x7, x8, x9, x10, x11, x12, x13, x14, x15, x16, x17, rfl⟩ := lenn_17 h1
  exact ⟨x0, x1, x2, x3, x4, x5, x6, x7, x8, x9, x10, x11, x12, x13, x14, x15, x16, x17, rfl⟩
theorem lenn_19 {l : Env'} (h : l.length = 19) : ∃ x0 x1 x2 x3 x4 x5 x6 x7 x8 x9 x10 x11 x12 x13 x14 x15 x16 x17 x18, l = [x0, x1, x2, x3, x4, x5, x6, x7, x8, x9, x10, x11, x12, x13, x14, x15, x16, x17, x18] := by
  obtain ⟨x0, r, rfl, h1⟩ := len_cons h
  obtain ⟨x1, x2, x3, x4, x5, x6, x7, x8, x9, x10, x11, x12, x13, x14, x15, x16, x17, x18, rfl⟩ := lenn_18 h1
  exact ⟨x0, x1, x2, x3, x4, x5, x6, x7, x8, x9, x10, x11, x12, x13, x14, x15, x16, x17, x18, rfl⟩
theorem lenn_20 {l : Env'} (h : l.length = 20) : ∃ x0 x1 x2 x3 x4 x5 x6 x7 x8 x9 x10 x11 x12 x13 x14 x15 x16 x17 x18 x19, l = [x0, x1, x2, x3, x4, x5, x6, x7, x8, x9, x10, x11, x12, x13, x14, x15, x16, x17, x18, x19] := by
  obtain ⟨x0, r, rfl, h1⟩ := len_cons h
  obtain ⟨x1, x2, x3, x4, x5, x6, x7, x8, x9, x10, x11, x12, x13, x14, x15, x16, x17, x18, x19, rfl⟩ := lenn_19 h1
  exact ⟨x0, x1, x2, x3, x4, x5, x6, x7, x8, x9, x10, x11, x12, x13, x14, x15, x16, x17, x18, x19, rfl⟩
theorem lenn_21 {l : Env'} (h : l.length = 21) : ∃ x0 x1 x2 x3 x4 x5 x6 x7 x8 x9 x10 x11 x12 x13 x14 x15 x16 x17 x18 x19 x20, l = [x0, x1, x2, x3, x4, x5, x6, x7, x8, x9, x10, x11, x12, x13, x14, x15, x16, x17, x18, x19, x20] := by
  obtain ⟨x0, r, rfl, h1⟩ := len_cons h
  obtain ⟨x1, x2, x3, x4, x5, x6, x7, x8, x9, x10, x11, x12, x13, x14, x15, x16, x17, x18, x19, x20, rfl⟩ := lenn_20 h1
  exact ⟨x0, x1, x2, x3, x4, x5, x6, x7, x8, x9, x10, x11, x12, x13, x14, x15, x16, x17, x18, x19, x20, rfl⟩
theorem lenn_22 {l : Env'} (h : l.length = 22) : ∃ x0 x1 x2 x3 x4 x5 x6 x7 x8 x9 x10 x11 x12 x13 x14 x15 x16 x17 x18 x19 x20 x21, l = [x0, x1, x2, x3, x4, x5, x6, x7, x8, x9, x10, x11, x12, x13, x14, x15, x16, x17, x18, x19, x20, x21] := by
  obtain ⟨x0, r, rfl, h1⟩ := len_cons h
  obtain ⟨x1, x2, x3, x4, x5, x6, x7, x8, x9, x10, x11, x12, x13, x14, x15, x16, x17, x18, x19, x20, x21, rfl⟩ := lenn_21 h1
  exact ⟨x0, x1, x2, x3, x4, x5, x6, x7, x8, x9, x10, x11, x12, x13, x14, x15, x16, x17, x18, x19, x20, x21, rfl⟩
theorem lenn_23 {l : Env'} (h : l.length = 23) : ∃ x0 x1 x2 x3 x4 x5 x6 x7 x8 x9 x10 x11 x12 x13 x14 x15 x16 x17 x18 x19 x20 x21 x22, l = [x0, x1, x2, x3, x4, x5, x6, x7, x8, x9, x10, x11, x12, x13, x14, x15, x16, x17, x18, x19, x20, x21, x22] := by
  obtain ⟨x0, r, rfl, h1⟩ := len_cons h
  obtain ⟨x1, x2, x3, x4, x5, x6, x7, x8, x9, x10, x11, x12, x13, x14, x15, x16, x17, x18, x19, x20, x21, x22, rfl⟩ := lenn_22 h1
  exact ⟨x0, x1, x2, x3, x4, x5, x6, x7, x8, x9, x10, x11, x12, x13, x14, x15, x16, x17, x18, x19, x20, x21, x22, rfl⟩
theorem lenn_24 {l : Env'} (h : l.length = 24) : ∃ x0 x1 x2 x3 x4 x5 x6 x7 x8 x9 x10 x11 x12 x13 x14 x15 x16 x17 x18 x19 x20 x21 x22 x23, l = [x0, x1, x2, x3, x4, x5, x6, x7, x8, x9, x10, x11, x12, x13, x14, x15, x16, x17, x18, x19, x20, x21, x22, x23] := by
  obtain ⟨x0, r, rfl, h1⟩ := len_cons h
  obtain ⟨x1, x2, x3, x4, x5, x6, x7, x8, x9, x10, x11, x12, x13, x14, x15, x16, x17, x18, x19, x20, x21, x22, x23, rfl⟩ := lenn_23 h1
  exact ⟨x0, x1, x2, x3, x4, x5, x6, x7, x8, x9, x10, x11, x12, x13, x14, x15, x16, x17, x18, x19, x20, x21, x22, x23, rfl⟩
theorem lenn_25 {l : Env'} (h : l.length = 25) : ∃ x0 x1 x2 x3 x4 x5 x6 x7 x8 x9 x10 x11 x12 x13 x14 x15 x16 x17 x18 x19 x20 x21 x22 x23 x24, l = [x0, x1, x2, x3, x4, x5, x6, x7, x8, x9, x10, x11, x12, x13, x14, x15, x16, x17, x18, x19, x20, x21, x22, x23, x24] := by
  obtain ⟨x0, r, rfl, h1⟩ := len_cons h
  obtain ⟨x1, x2, x3, x4, x5, x6, x7, x8, x9, x10, x11, x12, x13, x14, x15, x16, x17, x18, x19, x20, x21, x22, x23, x24, rfl⟩ := lenn_24 h1
  exact ⟨x0, x1, x2, x3, x4, x5, x6, x7, x8, x9, x10, x11, x12, x13, x14, x15, x16, x17, x18, x19, x20, x21, x22, x23, x24, rfl⟩
theorem lenn_26 {l : Env'} (h : l.length = 26) : ∃ x0 x1 x2 x3 x4 x5 x6 x7 x8 x9 x10 x11 x12 x13 x14 x15 x16 x17 x18 x19 x20 x21 x22 x23 x24 x25, l = [x0, x1, x2, x3, x4, x5, x6, x7, x8, x9, x10, x11, x12, x13, x14, x15, x16, x17, x18, x19, x20, x21, x22, x23, x24, x25] := by
  obtain ⟨x0, r, rfl, h1⟩ := len_cons h
  obtain ⟨x1, x2, x3, x4, x5, x6, x7, x8, x9, x10, x11, x12, x13, x14, x15, x16, x17, x18, x19, x20, x21, x22, x23, x24, x25, rfl⟩ := lenn_25 h1
  exact ⟨x0, x1, x2, x3, x4, x5, x6, x7, x8, x9, x10, x11, x12, x13, x14, x15, x16, x17, x18, x19, x20, x21, x22, x23, x24, x25, rfl⟩
theorem lenn_27 {l : Env'} (h : l.length = 27) : ∃ x0 x1 x2 x3 x4 x5 x6 x7 x8 x9 x10 x11 x12 x13 x14 x15 x16 x17 x18 x19 x20 x21 x22 x23 x24 x25 x26, l = [x0, x1, x2, x3, x4, x5, x6, x7, x8, x9, x10, x11, x12, x13, x14, x15, x16, x17, x18, x19, x20, x21, x22, x23, x24, x25, x26] := by
  obtain ⟨x0, r, rfl, h1⟩ := len_cons h
  obtain ⟨x1, x2, x3, x4, x5, x6, x7, x8, x9, x10, x11, x12, x13, x14, x15, x16, x17, x18, x19, x20, x21, x22, x23, x24, x25, x26, rfl⟩ := lenn_26 h1
  exact ⟨x0, x1, x2, x3, x4, x5, x6, x7, x8, x9, x10, x11, x12, x13, x14, x15, x16, x17, x18, x19, x20, x21, x22, x23, x24, x25, x26, rfl⟩
theorem lenn_28 {l : Env'} (h : l.length = 28) : ∃ x0 x1 x2 x3 x4 x5 x6 x7 x8 x9 x10 x11 x12 x13 x14 x15 x16 x17 x18 x19 x20 x21 x22 x23 x24 x25 x26 x27, l = [x0, x1, x2, x3, x4, x5, x6, x7, x8, x9, x10, x11, x12, x13, x14, x15, x16, x17, x18, x19, x20, x21, x22, x23, x24, x25, x26, x27] := by
  obtain ⟨x0, r, rfl, h1⟩ := len_cons h
  obtain ⟨x1, x2, x3, x4, x5, x6, x7, x8, x9, x10, x11, x12, x13, x14, x15, x16, x17, x18, x19, x20, x21, x22, x23, x24, x25, x26, x27, rfl⟩ := lenn_27 h1
  exact ⟨x0, x1, x2, x3, x4, x5, x6, x7, x8, x9, x10, x11, x12, x13, x14, x15, x16, x17, x18, x19, x20, x21, x22, x23, x24, x25, x26, x27, rfl⟩
theorem lenn_29 {l : Env'} (h : l.length = 29) : ∃ x0 x1 x2 x3 x4 x5 x6 x7 x8 x9 x10 x11 x12 x13 x14 x15 x16 x17 x18 x19 x20 x21 x22 x23 x24 x25 x26 x27 x28, l = [x0, x1, x2, x3, x4, x5, x6, x7, x8, x9, x10, x11, x12, x13, x14, x15, x16, x17, x18, x19, x20, x21, x22, x23, x24, x25, x26, x27, x28] := by
  obtain ⟨x0, r, rfl, h1⟩ := len_cons h
  obtain ⟨x1, x2, x3, x4, x5, x6, x7, x8, x9, x10, x11, x12, x13, x14, x15, x16, x17, x18, x19, x20, x21, x22, x23, x24, x25, x26, x27, x28, rfl⟩ := lenn_28 h1
  exact ⟨x0, x1, x2, x3, x4, x5, x6, x7, x8, x9, x10, x11, x12, x13, x14, x15, x16, x17, x18, x19, x20, x21, x22, x23, x24, x25, x26, x27, x28, rfl⟩
theorem lenn_30 {l : Env'} (h : l.length = 30) : ∃ x0 x1 x2 x3 x4 x5 x6 x7 x8 x9 x10 x11 x12 x13 x14 x15 x16 x17 x18 x19 x20 x21 x22 x23 x24 x25 x26 x27 x28 x29, l = [x0, x1, x2, x3, x4, x5, x6, x7, x8, x9, x10, x11, x12, x13, x14, x15, x16, x17, x18, x19, x20, x21, x22, x23, x24, x25, x26, x27, x28, x29] := by
  obtain ⟨x0, r, rfl, h1⟩ := len_cons h
  obtain ⟨x1, x2, x3, x4, x5, x6, x7, x8, x9, x10, x11, x12, x13, x14, x15, x16, x17, x18, x19, x20, x21, x22, x23, x24, x25, x26, x27, x28, x29, rfl⟩ := lenn_29 h1
  exact ⟨x0, x1, x2, x3, x4, x5, x6, x7, x8, x9, x10, x11, x12, x13, x14, x15, x16, x17, x18, x19, x20, x21, x22, x23, x24, x25, x26, x27, x28, x29, rfl⟩
end Rk

set_option maxHeartbeats 4000000
namespace Rk
open PySem PySem.Spec PyProof.Rows L2 M

/-! ### the hands: a bag, a tape -/
def HKbag (H : Hp) (a c : Addr) : Prop := ∃ (cs : List Int) (s l n : Int), H a = some (.lst [.ref c, .int s, .int l, .int n]) ∧ H c = some (.lst (cs.map V.int)) ∧ a ≠ c
def HKtape (H : Hp) (a c : Addr) : Prop := ∃ (cs : List Int) (p d s n : Int), H a = some (.lst [.ref c, .int p, .int d, .int s, .int n]) ∧ H c = some (.lst (cs.map V.int)) ∧ a ≠ c ∧ 0 ≤ p
theorem HKbag.hk (H H' : Hp) (a c : Addr) (h : HKbag H a c) (e1 : H' a = H a) (e2 : H' c = H c) : HKbag H' a c := by
  obtain ⟨cs, s, l, n, h1, h2, h3⟩ := h
  exact ⟨cs, s, l, n, by rw [e1, h1], by rw [e2, h2], h3⟩
theorem HKbag.hl (H : Hp) (a c : Addr) (h : HKbag H a c) : (∃ xs, H a = some (.lst xs)) ∧ (∃ xs, H c = some (.lst xs)) ∧ a ≠ c := by
  obtain ⟨cs, s, l, n, h1, h2, h3⟩ := h
  exact ⟨⟨_, h1⟩, ⟨_, h2⟩, h3⟩
theorem HKtape.hk (H H' : Hp) (a c : Addr) (h : HKtape H a c) (e1 : H' a = H a) (e2 : H' c = H c) : HKtape H' a c := by
  obtain ⟨cs, p, d, s, n, h1, h2, h3⟩ := h
  exact ⟨cs, p, d, s, n, by rw [e1, h1], by rw [e2, h2], h3⟩
theorem HKtape.hl (H : Hp) (a c : Addr) (h : HKtape H a c) : (∃ xs, H a = some (.lst xs)) ∧ (∃ xs, H c = some (.lst xs)) ∧ a ≠ c := by
  obtain ⟨cs, p, d, s, n, h1, h2, h3⟩ := h
  exact ⟨⟨_, h1⟩, ⟨_, h2⟩, h3.1⟩
theorem fmod_lo (x : Int) {m : Int} (h : 0 < m) : 0 ≤ x.fmod m := Int.fmod_nonneg_of_pos x h
theorem fmod_hi (x : Int) {m : Int} (h : 0 < m) : x.fmod m < m := Int.fmod_lt_of_pos x h

/-! ### a draw over the hand's own numbers -/
structure HS where
  cs : List Int
  zs : List Int
  ls : List (Option Int)
def HS.at (S : HS) (j : Int) : Option Int := if j ≤ 0 then none else S.zs[j.toNat - 1]?
def xI (S : HS) : Ex → Option Int
  | .var i => (S.ls[i]?).bind id
  | .int k => some k
  | .bin op a b => (xI S a).bind fun i => (xI S b).bind fun j => match op with
    | .add => some (i + j)
    | .mul => if (-(2 ^ 64) < i ∧ i < 2 ^ 64) ∨ (-(2 ^ 64) < j ∧ j < 2 ^ 64) then some (i * j) else none
    | .fdv => if j ≠ 0 ∧ -(2 ^ 200) < j ∧ j < 2 ^ 200 then some (i.fdiv j) else none
    | .mod => if j ≠ 0 then some (i.fmod j) else none
    | .pow => if 0 ≤ j ∧ j ≤ 1000000 ∧ i.natAbs < 2 ^ 64 then some (i ^ j.toNat) else none
    | _ => none
  | .idx a b => match a with
    | .var 0 => (xI S b).bind S.at
    | .idx (.var 0) (.int 0) => (xI S b).bind fun j => if 0 ≤ j then S.cs[j.toNat]? else none
    | _ => none
  | .blt f as => match f, as with
    | .len, .cons (.idx (.var 0) (.int 0)) .nil => some S.cs.length
    | .int, .cons a .nil => xI S a
    | _, _ => none
  | _ => none
def xB (S : HS) : Ex → Option Bool
  | .cmp op a b => (xI S a).bind fun i => (xI S b).bind fun j => cmpI op i j
  | .and a b => (xB S a).bind fun k => if k = true then xB S b else some false
  | .one a => xB S a
  | _ => none
inductive Ro where
  | nx (S : HS)
  | rt (r : Int) (S : HS)
def xV : Vx → HS → Option Ro
  | .nil, S => some (.nx S)
  | .seq a b, S => (xV a S).bind fun o => match o with
    | .nx S' => xV b S'
    | .rt r S' => some (.rt r S')
  | .set i x, S => (xI S x).bind fun z => if 1 ≤ i ∧ i < S.ls.length then some (.nx { S with ls := S.ls.set i (some z) }) else none
  | .sto o k x, S => (xI S x).bind fun z => (xI S k).bind fun j => match o with
    | .var 0 => if 1 ≤ j ∧ j.toNat - 1 < S.zs.length then some (.nx { S with zs := S.zs.set (j.toNat - 1) z }) else none
    | .idx (.var 0) (.int 0) => if 0 ≤ j ∧ j.toNat < S.cs.length then some (.nx { S with cs := S.cs.set j.toNat z }) else none
    | _ => none
  | .pop0 o, S => match o, S.cs with
    | .idx (.var 0) (.int 0), _ :: r => some (.nx { S with cs := r })
    | _, _ => none
  | .ite c a b, S => (xB S c).bind fun k => if k = true then xV a S else xV b S
  | .ret x, S => (xI S x).bind fun r => some (.rt r S)
structure HR (H0 : Hp) (a c : Addr) (S : HS) (H : Hp) (σ : L2.St) : Prop where
  ne : a ≠ c
  ha : H a = some (.lst (.ref c :: S.zs.map V.int))
  hc : H c = some (.lst (S.cs.map V.int))
  s0 : σ[0]? = some (some (.ref a))
  l0 : S.ls[0]? = some none
  len : σ.length = S.ls.length
  sl : ∀ (i : Nat) (z : Int), S.ls[i]? = some (some z) → σ[i]? = some (some (V.int z))
  same : ∀ b, b ≠ a → b ≠ c → H b = H0 b
section
variable {H0 H : Hp} {a c : Addr} {S : HS} {σ : L2.St}
theorem atI_pos {xs : List V} {j : Int} {v : V} (h0 : 0 ≤ j) (h : xs[j.toNat]? = some v) : atI xs j = some v := by
  have := atI_nat (xs := xs) (j := j.toNat) (v := v) h
  rw [show ((j.toNat : Nat) : Int) = j by omega] at this
  exact this
theorem ixN_pos {n : Nat} {j : Int} (h0 : 0 ≤ j) (h : j.toNat < n) : ixN n j = some j.toNat := by
  have e : atI (List.range n) j = some j.toNat := by
    have := atI_nat (xs := List.range n) (j := j.toNat) (v := j.toNat) (by rw [List.getElem?_range h])
    rw [show ((j.toNat : Nat) : Int) = j by omega] at this
    exact this
  unfold atI at e
  rw [List.length_range] at e
  cases q : ixN n j with
  | none =>
    rw [q] at e
    cases e
  | some k =>
    rw [q] at e
    have e : (List.range n)[k]? = some j.toNat := e
    obtain ⟨h1, h2⟩ := List.getElem?_eq_some_iff.mp e
    simp at h2
    rw [h2]
theorem xI_ok (R : HR H0 a c S H σ) : ∀ (x : Ex) (z : Int) (Q : V → Prop), xI S x = some z → Q (.int z) → vW H σ x Q
  | .var i, z, Q, e, q => by
    simp only [xI] at e
    cases h : S.ls[i]? with
    | none => rw [h] at e; cases e
    | some o =>
      rw [h] at e
      have e : o = some z := e
      subst e
      exact ⟨_, R.sl i z h, q⟩
  | .int k, z, Q, e, q => by
    simp only [xI, Option.some.injEq] at e
    subst e
    exact q
  | .bin op x y, z, Q, e, q => by
    simp only [xI] at e
    cases h1 : xI S x with
    | none => rw [h1] at e; cases e
    | some i =>
      cases h2 : xI S y with
      | none => rw [h1, h2] at e; cases e
      | some j =>
        rw [h1, h2] at e
        simp only [Option.bind_some] at e
        refine xI_ok R x i _ h1 (xI_ok R y j _ h2 ⟨i, j, rfl, rfl, ?_⟩)
        cases op <;> simp only [binW] at e ⊢
        · cases e
          exact ⟨_, rfl, q⟩
        · cases e
        · split at e
          · rename_i hb
            cases e
            exact ⟨by rcases hb with hb | hb; exact mulOk_l hb.1 hb.2; exact mulOk_r hb.1 hb.2, _, rfl, q⟩
          · cases e
        · split at e
          · rename_i hb
            cases e
            exact ⟨hb.1, log2_ok hb.2.1 hb.2.2, _, rfl, q⟩
          · cases e
        · split at e
          · rename_i hb
            cases e
            exact ⟨hb, _, rfl, q⟩
          · cases e
        · split at e
          · rename_i hb
            cases e
            exact ⟨hb, _, rfl, q⟩
          · cases e
  | .idx x y, z, Q, e, q => by
    unfold xI at e
    split at e
    · cases h2 : xI S y with
      | none => rw [h2] at e; cases e
      | some j =>
        rw [h2] at e
        have e : S.at j = some z := e
        unfold HS.at at e
        split at e
        · cases e
        · rename_i hj
          refine ⟨_, R.s0, xI_ok R y j _ h2 ⟨a, j, _, .int z, rfl, rfl, R.ha, atI_pos (by omega) ?_, q⟩⟩
          rw [show j.toNat = (j.toNat - 1) + 1 by omega, List.getElem?_cons_succ, List.getElem?_map, e]
          rfl
    · cases h2 : xI S y with
      | none => rw [h2] at e; cases e
      | some j =>
        rw [h2] at e
        have e : (if 0 ≤ j then S.cs[j.toNat]? else none) = some z := e
        split at e
        · rename_i hj
          refine ⟨_, R.s0, ⟨a, 0, _, .ref c, rfl, rfl, R.ha, atI_pos (by omega) rfl, xI_ok R y j _ h2 ⟨c, j, _, .int z, rfl, rfl, R.hc, atI_pos hj ?_, q⟩⟩⟩
          rw [List.getElem?_map, e]
          rfl
        · cases e
    · cases e
  | .blt f as, z, Q, e, q => by
    unfold xI at e
    split at e
    · cases e
      refine ⟨_, R.s0, ⟨a, 0, _, .ref c, rfl, rfl, R.ha, atI_pos (by omega) rfl, c, _, rfl, R.hc, ?_⟩⟩
      rw [List.length_map]
      exact q
    · have h := xI_ok R _ z (fun u => ∃ i, u = .int i ∧ Q (.int i)) e ⟨z, rfl, q⟩
      exact h
    · cases e
  | .non, _, _, e, _ => by cases e
  | .tt _, _, _, e, _ => by cases e
  | .str _, _, _, e, _ => by cases e
  | .con _, _, _, e, _ => by cases e
  | .fnv _, _, _, e, _ => by cases e
  | .neg _, _, _, e, _ => by cases e
  | .not _, _, _, e, _ => by cases e
  | .cmp _ _ _, _, _, e, _ => by cases e
  | .cmp2 _ _ _ _ _, _, _, e, _ => by cases e
  | .and _ _, _, _, e, _ => by cases e
  | .or _ _, _, _, e, _ => by cases e
  | .one _, _, _, e, _ => by cases e
  | .ite _ _ _, _, _, e, _ => by cases e
  | .call _ _, _, _, e, _ => by cases e
  | .callv _ _ _, _, _, e, _ => by cases e
  | .isi _ _, _, _, e, _ => by cases e
  | .slc _ _ _, _, _, e, _ => by cases e
  | .rev _, _, _, e, _ => by cases e
  | .tup _, _, _, e, _ => by cases e
  | .lst _, _, _, e, _ => by cases e
  | .comp _ _ _ _ _, _, _, e, _ => by cases e
  | .rng1 _, _, _, e, _ => by cases e
  | .rng2 _ _, _, _, e, _ => by cases e
  | .zip _ _, _, _, e, _ => by cases e
  | .enum _, _, _, e, _ => by cases e
  | .lix _ _, _, _, e, _ => by cases e
  | .nil, _, _, e, _ => by cases e
  | .cons _ _, _, _, e, _ => by cases e
  | .own _, _, _, e, _ => by cases e
theorem xB_ok (R : HR H0 a c S H σ) : ∀ (x : Ex) (k : Bool) (Q : Bool → Prop), xB S x = some k → Q k → vT H σ x Q := by
  intro x
  induction x <;> intro k Q e q <;> first | (cases e; done) | skip
  · rename_i op x y _ _
    simp only [xB] at e
    cases h1 : xI S x with
    | none => rw [h1] at e; cases e
    | some i =>
      cases h2 : xI S y with
      | none => rw [h1, h2] at e; cases e
      | some j =>
        rw [h1, h2] at e
        exact xI_ok R x i _ h1 (xI_ok R y j _ h2 ⟨i, j, k, rfl, rfl, e, q⟩)
  · rename_i x y ihx ihy
    simp only [xB] at e
    cases h1 : xB S x with
    | none => rw [h1] at e; cases e
    | some b =>
      rw [h1] at e
      simp only [Option.bind_some] at e
      refine ihx b _ h1 ?_
      cases b with
      | true => exact ihy k Q e q
      | false =>
        cases e
        exact q
  · rename_i x ih
    exact ih k Q e q
theorem HR.set (R : HR H0 a c S H σ) {i : Nat} {z : Int} (h1 : 1 ≤ i) (h2 : i < S.ls.length) : HR H0 a c { S with ls := S.ls.set i (some z) } H (σ.set i (some (.int z))) := by
  refine ⟨R.ne, R.ha, R.hc, ?_, ?_, by simp [R.len], fun k y e => ?_, R.same⟩
  · rw [List.getElem?_set_ne (by omega)]
    exact R.s0
  · show (S.ls.set i (some z))[0]? = some none
    rw [List.getElem?_set_ne (by omega)]
    exact R.l0
  · have e : (S.ls.set i (some z))[k]? = some (some y) := e
    by_cases hk : i = k
    · subst hk
      rw [List.getElem?_set_self h2] at e
      cases e
      rw [List.getElem?_set_self (by rw [R.len]; exact h2)]
    · rw [List.getElem?_set_ne hk] at e ⊢
      exact R.sl k y e
theorem HR.zs (R : HR H0 a c S H σ) {zs : List Int} : HR H0 a c { S with zs := zs } (upd H a (.lst (.ref c :: zs.map V.int))) σ := by
  refine ⟨R.ne, upd_same, ?_, R.s0, R.l0, R.len, R.sl, fun b h1 h2 => ?_⟩
  · rw [upd_ne (Ne.symm R.ne)]
    exact R.hc
  · rw [upd_ne h1]
    exact R.same b h1 h2
theorem HR.cs (R : HR H0 a c S H σ) {cs : List Int} : HR H0 a c { S with cs := cs } (upd H c (.lst (cs.map V.int))) σ := by
  refine ⟨R.ne, ?_, upd_same, R.s0, R.l0, R.len, R.sl, fun b h1 h2 => ?_⟩
  · rw [upd_ne R.ne]
    exact R.ha
  · rw [upd_ne h2]
    exact R.same b h1 h2
def Ro.to (D : Ends) (H0 : Hp) (a c : Addr) : Ro → Prop
  | .nx S => ∀ σ H, HR H0 a c S H σ → D.nx σ H
  | .rt r S => ∀ σ H, HR H0 a c S H σ → D.rt (.int r) H
theorem xV_ok : ∀ (x : Vx) (S : HS) (o : Ro) (D : Ends) (σ : L2.St) (H : Hp), HR H0 a c S H σ → xV x S = some o → o.to D H0 a c → wpV x D σ H
  | .nil, S, o, D, σ, H, R, e, q => by
    cases e
    exact q σ H R
  | .seq x y, S, o, D, σ, H, R, e, q => by
    simp only [xV] at e
    cases h1 : xV x S with
    | none => rw [h1] at e; cases e
    | some p =>
      rw [h1] at e
      simp only [Option.bind_some] at e
      refine xV_ok x S p _ σ H R h1 ?_
      cases p with
      | nx S' => exact fun σ' H' R' => xV_ok y S' o D σ' H' R' e q
      | rt r S' =>
        cases e
        exact q
  | .set i x, S, o, D, σ, H, R, e, q => by
    simp only [xV] at e
    cases h1 : xI S x with
    | none => rw [h1] at e; cases e
    | some z =>
      rw [h1] at e
      simp only [Option.bind_some] at e
      split at e
      · rename_i hi
        cases e
        exact xI_ok R x z _ h1 (q _ _ (R.set hi.1 hi.2))
      · cases e
  | .sto o1 k x, S, o, D, σ, H, R, e, q => by
    simp only [xV] at e
    cases h1 : xI S x with
    | none => rw [h1] at e; cases e
    | some z =>
      cases h2 : xI S k with
      | none => rw [h1, h2] at e; cases e
      | some j =>
        rw [h1, h2] at e
        simp only [Option.bind_some] at e
        split at e
        · split at e
          · rename_i hj
            cases e
            refine xI_ok R x z _ h1 ⟨_, R.s0, xI_ok R k j _ h2 ⟨a, j, _, j.toNat, rfl, rfl, R.ha, ixN_pos (by omega) (by simp; omega), ?_⟩⟩
            have e2 : ((V.ref c :: S.zs.map V.int).set j.toNat (V.int z)) = .ref c :: (S.zs.set (j.toNat - 1) z).map V.int := by
              rw [show j.toNat = (j.toNat - 1) + 1 by omega, List.set_cons_succ, List.map_set]
              rfl
            rw [e2]
            exact q _ _ R.zs
          · cases e
        · split at e
          · rename_i hj
            cases e
            refine xI_ok R x z _ h1 ⟨_, R.s0, ⟨a, 0, _, .ref c, rfl, rfl, R.ha, atI_pos (by omega) rfl, xI_ok R k j _ h2 ⟨c, j, _, j.toNat, rfl, rfl, R.hc, ixN_pos hj.1 (by simpa using hj.2), ?_⟩⟩⟩
            rw [← List.map_set]
            exact q _ _ R.cs
          · cases e
        · cases e
  | .pop0 o1, S, o, D, σ, H, R, e, q => by
    simp only [xV] at e
    split at e
    · rename_i y r hcs
      cases e
      have hc := R.hc
      rw [hcs] at hc
      exact ⟨_, R.s0, ⟨a, 0, _, .ref c, rfl, rfl, R.ha, atI_pos (by omega) rfl, c, _, _, rfl, hc, q _ _ R.cs⟩⟩
    · cases e
  | .ite x y z, S, o, D, σ, H, R, e, q => by
    simp only [xV] at e
    cases h1 : xB S x with
    | none => rw [h1] at e; cases e
    | some k =>
      rw [h1] at e
      simp only [Option.bind_some] at e
      refine xB_ok R x k _ h1 ?_
      cases k with
      | true => exact xV_ok y S o D σ H R e q
      | false => exact xV_ok z S o D σ H R e q
  | .ret x, S, o, D, σ, H, R, e, q => by
    simp only [xV] at e
    cases h1 : xI S x with
    | none => rw [h1] at e; cases e
    | some z =>
      rw [h1] at e
      cases e
      exact xI_ok R x z _ h1 (q _ _ R)
end
end Rk
namespace Rk
theorem fb1 (x : Int) : -18446744073709551616 < x.fmod 2147483647 := Int.lt_of_lt_of_le (by decide) (fmod_lo x (by decide))
theorem fb2 (x : Int) : x.fmod 2147483647 < 18446744073709551616 := Int.lt_trans (fmod_hi x (by decide)) (by decide)
theorem fb3 (x : Int) : -18446744073709551616 < x.fmod 2147483399 := Int.lt_of_lt_of_le (by decide) (fmod_lo x (by decide))
theorem fb4 (x : Int) : x.fmod 2147483399 < 18446744073709551616 := Int.lt_trans (fmod_hi x (by decide)) (by decide)
theorem fb5 (x : Int) : -18446744073709551616 < x.fmod 2147483563 := Int.lt_of_lt_of_le (by decide) (fmod_lo x (by decide))
theorem fb6 (x : Int) : x.fmod 2147483563 < 18446744073709551616 := Int.lt_trans (fmod_hi x (by decide)) (by decide)
end Rk

set_option maxHeartbeats 4000000
namespace Rk
open PySem PySem.Spec PyProof.Rows L2 M

/-! ### the hand's defs -/
theorem HR.start {H : Hp} {a c : Addr} {m : Int} {k : Nat} {cs zs : List Int} (h1 : H a = some (.lst (.ref c :: zs.map V.int))) (h2 : H c = some (.lst (cs.map V.int))) (h3 : a ≠ c) :
    HR H a c ⟨cs, zs, none :: some m :: List.replicate k none⟩ H (some (.ref a) :: some (.int m) :: List.replicate k none) := by
  refine ⟨h3, h1, h2, rfl, rfl, by simp, fun i z e => ?_, fun _ _ _ => rfl⟩
  match i with
  | 0 => cases e
  | 1 =>
    cases e
    rfl
  | i + 2 =>
    have e : (List.replicate k (none : Option Int))[i]? = some (some z) := e
    rw [List.getElem?_replicate] at e
    split at e <;> cases e
theorem draw_bag {vx : Vx} {Nm : List Str} {k : Nat} (hs : ∀ (a : Addr) (m : Int), L2.start Nm [V.ref a, V.int m] = some (V.ref a) :: some (V.int m) :: List.replicate k none)
    (ht : ∀ (cs : List Int) (s l n m : Int), 0 < m → m < 2 ^ 200 → ∃ r cs' s' l' n' ls', xV vx ⟨cs, [s, l, n], none :: some m :: List.replicate k none⟩ = some (.rt r ⟨cs', [s', l', n'], ls'⟩) ∧ 0 ≤ r ∧ r < m)
    (H : Hp) (a c : Addr) (m : Int) (D : Ends) (hk : HKbag H a c) (m0 : 0 < m) (m1 : m < 2 ^ 200) (q : ∀ r H', 0 ≤ r → r < m → HKbag H' a c → (∀ b, b ≠ a → b ≠ c → H' b = H b) → D.rt (.int r) H') :
    wpV vx D (L2.start Nm [V.ref a, V.int m]) H := by
  obtain ⟨cs, s, l, n, h1, h2, h3⟩ := hk
  obtain ⟨r, cs', s', l', n', ls', e, r0, r1⟩ := ht cs s l n m m0 m1
  rw [hs]
  refine xV_ok vx _ _ D _ H (HR.start (zs := [s, l, n]) h1 h2 h3) e fun σ' H' R => ?_
  exact q r H' r0 r1 ⟨cs', s', l', n', R.ha, R.hc, h3⟩ R.same
theorem draw_tape {vx : Vx} {Nm : List Str} {k : Nat} (hs : ∀ (a : Addr) (m : Int), L2.start Nm [V.ref a, V.int m] = some (V.ref a) :: some (V.int m) :: List.replicate k none)
    (ht : ∀ (cs : List Int) (p d s n m : Int), 0 ≤ p → 0 < m → m < 2 ^ 200 → ∃ r cs' p' d' s' n' ls', xV vx ⟨cs, [p, d, s, n], none :: some m :: List.replicate k none⟩ = some (.rt r ⟨cs', [p', d', s', n'], ls'⟩) ∧ 0 ≤ r ∧ r < m ∧ 0 ≤ p')
    (H : Hp) (a c : Addr) (m : Int) (D : Ends) (hk : HKtape H a c) (m0 : 0 < m) (m1 : m < 2 ^ 200) (q : ∀ r H', 0 ≤ r → r < m → HKtape H' a c → (∀ b, b ≠ a → b ≠ c → H' b = H b) → D.rt (.int r) H') :
    wpV vx D (L2.start Nm [V.ref a, V.int m]) H := by
  obtain ⟨cs, p, d, s, n, h1, h2, h3, h4⟩ := hk
  obtain ⟨r, cs', p', d', s', n', ls', e, r0, r1, p0⟩ := ht cs p d s n m h4 m0 m1
  rw [hs]
  refine xV_ok vx _ _ D _ H (HR.start (zs := [p, d, s, n]) h1 h2 h3) e fun σ' H' R => ?_
  exact q r H' r0 r1 ⟨cs', p', d', s', n', R.ha, R.hc, h3, p0⟩ R.same
section
variable {n : Nms} {cn : Cns} {S : MSig} {C : Cfg} {P : Program} {w : World} {mg : Str → Option Value} {base : Heap} {k : Nat} {f : Addr} {x qual : Str} {st : Stmt} {fd : FuncData} {ar : List Str}
def HandP (S : MSig) (i : Nat) (as : Ex) (mk : List Int → List Int → Prop) (o : Oc) : Prop := ∃ (ρ : Env') (cs zs : List Int), o = .nx ρ ∧ ρ[i]? = some (.ol (cs.map PV.int)) ∧ (ev S as).a ρ = ret (zs.map PV.int) ∧ mk cs zs
theorem handM_ok {Nm : List Str} {sx : Sx} {i : Nat} {as : Ex} (F : L2.Fun C.K x qual st f fd) (Sc : FnScope Nm ar (defScope st)) (h1 : ar.length = 1) (L : Lib ⟨Nm, n.fn, n.cn, n.wn, n.cl, f0⟩ S.sig C P w mg base k) (R : Crs cn C mg) (hk : chkH ⟨Nm, n.fn, n.cn, n.wn, n.cl, f0⟩ cn sx i as (defScope st) (defBody st) = true)
    (mk : List Int → List Int → Prop) (hm : ∀ cs zs, mk cs zs → zs.length < sizeLine) (hHK : ∀ (H : Hp) (a c : Addr) (cs zs : List Int), mk cs zs → H a = some (.lst (.ref c :: zs.map V.int)) → H c = some (.lst (cs.map V.int)) → a ≠ c → C.HK H a c)
    (hv : ∀ ns, (evS S sx (entry Nm.length [.scr ns])).wp (HandP S i as mk) fun _ => False) :
    FnG P w C.K mg base (k + 1) f fd ar (spOf C handF.spec) := by
  refine (hand_ok F Sc h1 L R hk mk hm hHK fun ns => ?_).weak fun as Q E h => handF_ok h
  refine evS_ok S sx _ _ (wp_mono (fun o ho => ?_) (fun _ z => z) _ (hv ns))
  obtain ⟨ρ, cs, zs, rfl, e1, e2, e3⟩ := ho
  refine ⟨cs, e1, (ev_ok S as).a _ _ _ ?_⟩
  rw [e2]
  exact ⟨zs, rfl, e3⟩
theorem drawM_ok {Nm : List Str} {vx : Vx} (F : L2.Fun C.K x qual st f fd) (Sc : FnScope Nm ar (defScope st)) (h2 : ar.length = 2) (L : Lib ⟨Nm, n.fn, n.cn, n.wn, n.cl, f0⟩ S.sig C P w mg base k) (R : Crs cn C mg) (hk : (chkV ⟨Nm, n.fn, n.cn, n.wn, n.cl, f0⟩ vx).blk (defScope st) (defBody st) = true)
    (hv : ∀ (H : Hp) (a c : Addr) (m : Int) (D : Ends), C.HK H a c → 0 < m → m < 2 ^ 200 → (∀ r H', 0 ≤ r → r < m → C.HK H' a c → (∀ b, b ≠ a → b ≠ c → H' b = H b) → D.rt (.int r) H') → wpV vx D (L2.start Nm [.ref a, .int m]) H) :
    FnG P w C.K mg base (k + 1) f fd ar (spOf C drawF.spec) :=
  (draw_ok F Sc h2 L R hk hv).weak fun as Q E h => drawF_ok h
end
def mkBag (_cs zs : List Int) : Prop := ∃ s l n, zs = [s, l, n]
def mkTape (_cs zs : List Int) : Prop := ∃ p d s n, zs = [p, d, s, n] ∧ 0 ≤ p
theorem mkBag_len (cs zs : List Int) (h : mkBag cs zs) : zs.length < sizeLine := by
  obtain ⟨s, l, n, rfl⟩ := h
  exact size_lt (by simp)
theorem mkTape_len (cs zs : List Int) (h : mkTape cs zs) : zs.length < sizeLine := by
  obtain ⟨s, l, m, n, rfl, _⟩ := h
  exact size_lt (by simp)
theorem mkBag_HK (H : Hp) (a c : Addr) (cs zs : List Int) (h : mkBag cs zs) (h1 : H a = some (.lst (.ref c :: zs.map V.int))) (h2 : H c = some (.lst (cs.map V.int))) (h3 : a ≠ c) : HKbag H a c := by
  obtain ⟨s, l, n, rfl⟩ := h
  exact ⟨cs, s, l, n, h1, h2, h3⟩
theorem mkTape_HK (H : Hp) (a c : Addr) (cs zs : List Int) (h : mkTape cs zs) (h1 : H a = some (.lst (.ref c :: zs.map V.int))) (h2 : H c = some (.lst (cs.map V.int))) (h3 : a ≠ c) : HKtape H a c := by
  obtain ⟨p, d, s, n, rfl, h⟩ := h
  exact ⟨cs, p, d, s, n, h1, h2, h3, h⟩

/-! ### the program's defs, one by one -/
def fnUp (l : List Str) (k : Nat) : Nat → Option Str := fun i => if i < k then l[i]? else none
structure World' where
  P : Program
  w : World
  C : Cfg
  mg : Str → Option Value
  base : Heap
section
variable {l : List Str} {cn wn cl : Nat → Option Str} {S : MSig} {C : Cfg} {P : Program} {w : World} {mg : Str → Option Value} {base : Heap} {k j : Nat}
theorem Lib.nm {N N' : List Str} {fn cn wn cl : Nat → Option Str} {fl fl' : Flags} {S : Sig} (L : Lib ⟨N, fn, cn, wn, cl, fl⟩ S C P w mg base k) : Lib ⟨N', fn, cn, wn, cl, fl'⟩ S C P w mg base k := ⟨L.fns, L.cns, L.wds, L.cls, L.exc, L.blt⟩
theorem Lib.mono {n : Nms} {S : Sig} {k' : Nat} (L : Lib n S C P w mg base k) (h : k ≤ k') : Lib n S C P w mg base k' :=
  ⟨fun i x e => by
    obtain ⟨f', fd', ps', a1, a2, a3, a4, a5, a6⟩ := L.fns i x e
    exact ⟨f', fd', ps', a1, a2, a3, a4, a5, a6.mono h⟩, L.cns, fun i x e => by
    obtain ⟨m, ga, N, qg, sg, cd, a, h1, h2⟩ := L.wds i x e
    exact ⟨m, ga, N, qg, sg, cd, a, Nat.le_trans h1 h, h2⟩, L.cls, L.exc, L.blt⟩
/-- one def more -/
theorem lib_add {F : MF} {nm : Str} {f : Addr} {fd : FuncData} {ps : List Str} (L : Lib ⟨[], fnUp l j, cn, wn, cl, f0⟩ S.sig C P w mg base k) (hl : l[j]? = some nm) (hm : mg nm = some (.ref f)) (hf : C.fa j = some f) (hk : PySem.W.keepIn C.K (.ref f) = true)
    (hb : Binds C.K fd ps []) (hp : ps.length = F.ar) (G : FnG P w C.K mg base k f fd ps (spOf C F.spec)) : Lib ⟨[], fnUp l (j + 1), cn, wn, cl, f0⟩ (S.add j F).sig C P w mg base k := by
  refine ⟨fun i x e => ?_, L.cns, L.wds, L.cls, L.exc, L.blt⟩
  have e2 : (if i < j + 1 then l[i]? else none) = some x := e
  clear e
  split at e2
  · rename_i hi
    by_cases hj : i = j
    · subst hj
      rw [hl] at e2
      cases e2
      have e1 : ((S.add i F).sig.Φ i) = F.spec := by
        show ((bif Nat.beq i i then F else S.F i)).spec = F.spec
        rw [Nat.beq_refl]
        rfl
      rw [e1]
      exact ⟨f, fd, ps, hm, hf, hk, hb, hp, G⟩
    · have e1 : ((S.add j F).sig.Φ i) = S.sig.Φ i := by
        show ((bif Nat.beq i j then F else S.F i)).spec = (S.F i).spec
        have : Nat.beq i j = false := by
          cases q : Nat.beq i j with
          | false => rfl
          | true => exact absurd (Nat.eq_of_beq_eq_true q) hj
        rw [this]
        rfl
      rw [e1]
      have hi2 : i < j := by omega
      exact L.fns i x (by
        show (if i < j then l[i]? else none) = some x
        rw [if_pos hi2]
        exact e2)
  · cases e2
theorem lib_step {F : MF} {nm : Str} {f : Addr} {fd : FuncData} {ps : List Str} {k' : Nat} (hle : k ≤ k') (L : Lib ⟨[], fnUp l j, cn, wn, cl, f0⟩ S.sig C P w mg base k) (hl : l[j]? = some nm) (hm : mg nm = some (.ref f)) (hf : C.fa j = some f)
    (hk : PySem.W.keepIn C.K (.ref f) = true) (hb : Binds C.K fd ps []) (hp : ps.length = F.ar) (G : FnG P w C.K mg base k' f fd ps (spOf C F.spec)) : Lib ⟨[], fnUp l (j + 1), cn, wn, cl, f0⟩ (S.add j F).sig C P w mg base k' :=
  lib_add (L.mono hle) hl hm hf hk hb hp G
def badF (ar : Nat) : MF := ⟨ar, fun _ => bad, fun _ _ _ h => h.elim⟩
theorem FnG.bad {f : Addr} {fd : FuncData} {ar : List Str} {n : Nat} : FnG P w C.K mg base k f fd ar (spOf C (badF n).spec) :=
  ⟨fun vs H Q E ⟨_, _, _, _, _, h⟩ => h.elim, fun A outer s H args us vs Q E hr gd en bt rv ⟨_, _, _, _, _, h⟩ => h.elim⟩
/-- a def more that is handed something to call -/
theorem lib_word {nm : Str} {f : Addr} {fd : FuncData} {W : MW} {N : List Str} {qg : Str} {sg : Scope} {a : Str} {wl : List Str} {i : Nat} (L : Lib ⟨[], fnUp l j, cn, fnUp wl i, cl, f0⟩ S.sig C P w mg base k) (hl : l[j]? = some nm) (hw : wl[i]? = some nm) (hm : mg nm = some (.ref f)) (hf : C.fa j = some f)
    (hk : PySem.W.keepIn C.K (.ref f) = true) (hb : Binds C.K fd [a] []) (hN : N[0]? = some a) (hv : Vis sg a) (hok : okName a = true) (G : ∃ cdv, Wd C P w mg base (k + 1) f N qg sg cdv a W.spec) :
    Lib ⟨[], fnUp l (j + 1), cn, fnUp wl (i + 1), cl, f0⟩ ((S.add j (badF 1)).addW i W).sig C P w mg base (k + 1) := by
  have L1 := lib_add (F := badF 1) (L.mono (Nat.le_succ k)) hl hm hf hk hb rfl FnG.bad
  refine ⟨L1.fns, L1.cns, fun m x e => ?_, L1.cls, L1.exc, L1.blt⟩
  have e2 : (if m < i + 1 then wl[m]? else none) = some x := e
  clear e
  split at e2
  · rename_i hi
    by_cases hj : m = i
    · subst hj
      rw [hw] at e2
      cases e2
      obtain ⟨cdv, G⟩ := G
      have e1 : (((S.add j (badF 1)).addW m W).sig.wd m) = W.spec := by
        show ((bif Nat.beq m m then W else S.wd m)).spec = W.spec
        rw [Nat.beq_refl]
        rfl
      rw [e1]
      exact ⟨k + 1, f, N, qg, sg, cdv, a, Nat.le_refl _, hm, hN, hv, hok, G⟩
    · have e1 : (((S.add j (badF 1)).addW i W).sig.wd m) = S.sig.wd m := by
        show ((bif Nat.beq m i then W else S.wd m)).spec = (S.wd m).spec
        have : Nat.beq m i = false := by
          cases q : Nat.beq m i with
          | false => rfl
          | true => exact absurd (Nat.eq_of_beq_eq_true q) hj
        rw [this]
        rfl
      rw [e1]
      exact L1.wds m x (by
        show (if m < i then wl[m]? else none) = some x
        rw [if_pos (by omega)]
        exact e2)
  · cases e2
/-- a def that calls itself, so many deep -/
theorem rec_ok {cs : Cns} {nm x qual : Str} {st : Stmt} {f : Addr} {fd : FuncData} {ar Nm : List Str} {sx : Sx} {R : Nat → MF}
    (h0 : R 0 = badF ar.length) (hR : ∀ m, R (m + 1) = mfOf (S.add j (R m)) Nm.length ar.length sx)
    (L : Lib ⟨[], fnUp l j, cn, wn, cl, f0⟩ S.sig C P w mg base k) (hl : l[j]? = some nm) (hm : mg nm = some (.ref f)) (hf : C.fa j = some f) (hkp : PySem.W.keepIn C.K (.ref f) = true) (hb : Binds C.K fd ar [])
    (F : L2.Fun C.K x qual st f fd) (Sc : FnScope Nm ar (defScope st)) (Rc : Crs cs C mg) (hk : (chkS ⟨Nm, fnUp l (j + 1), cn, wn, cl, f0⟩ cs sx).blk (defScope st) (defBody st) = true) :
    ∀ m, FnG P w C.K mg base (k + m) f fd ar (spOf C (R m).spec)
  | 0 => by
    rw [h0]
    exact FnG.bad
  | m + 1 => by
    have G := rec_ok h0 hR L hl hm hf hkp hb F Sc Rc hk m
    have ea : ar.length = (R m).ar := by
      cases m with
      | zero => rw [h0]; rfl
      | succ m => rw [hR]; rfl
    have L1 := lib_add (F := R m) (L.mono (show k ≤ k + m by omega)) hl hm hf hkp hb ea G
    rw [hR]
    exact defM_ok (n := ⟨[], fnUp l (j + 1), cn, wn, cl, f0⟩) (lm := false) F Sc L1.nm Rc hk (fun z => by cases z)
theorem lib_zero {wl : List Str} (hc : ∀ c x, cn c = some x → ∃ u v, mg x = some u ∧ RelV v u ∧ ∀ g, RP C g (S.cn c) v)
    (hcl : ∀ i x, cl i = some x → ∃ D, mg x = some (.ref D) ∧ C.ca i = some D ∧ (∀ j' D', C.ca j' = some D' → PySem.W.kitOne C.K (.ref D') (.ref D) = some (S.sb j' i) ∧ PySem.W.exmOne C.K (.ref D') (.ref D) = some (S.sb j' i)))
    (hex : ∀ i D, C.ca i = some D → ExcC C.K D ∧ PySem.W.kitOne C.K (.ref D) (.type "ValueError") = some true)
    (hb : ∀ b, b ∈ bltNames → mg b = none) : Lib ⟨[], fnUp l 0, cn, fnUp wl 0, cl, f0⟩ S.sig C P w mg base 0 :=
  ⟨fun i x e => (by
    have e2 : (if i < 0 then l[i]? else none) = some x := e
    rw [if_neg (by omega)] at e2
    cases e2), hc, fun i x e => (by
    have e2 : (if i < 0 then wl[i]? else none) = some x := e
    rw [if_neg (by omega)] at e2
    cases e2), hcl, hex, hb⟩
end
theorem cut63 (ns : List Int) : (cutA ns none (some 63)).length ≤ 63 := by
  unfold cutA
  have e : HT.sIx ns.length ns.length (some 63) = min 63 ns.length := HT.sIx_nat _ _ 63
  rw [e]
  simp
  omega
theorem loose_int {h : Heap} {v : Value} {i : Int} (r : PySem.W.ReadsLit h v (.int i) []) : ∃ t, v = .int i t := by
  cases r
  exact ⟨_, rfl⟩
theorem mul_lit {i j : Int} (h1 : -(2 ^ 64) < i) (h2 : i < 2 ^ 64) : IntMulOk i j = True := eq_true (mulOk_l h1 h2)
theorem crs_none {C : Cfg} {mg : Str → Option Value} : Crs ⟨fun _ => none⟩ C mg := ⟨fun c x e => by cases e⟩
end Rk

set_option maxHeartbeats 4000000
namespace Rk
open PySem PySem.Spec PyProof.Rows L2 M

@[simp] theorem l2ok {n : Nat} (h : n < 1606938044258990275541962092341162602522202993782792835301376) : (n.log2 < 9000) = True := by
  have := log2_ok (j := (n : Int)) (by omega) (by omega)
  simp at this
  simp [this]
/-! ### fractions: Lean's own -/
def fr (q : Rat) : PV := .tup [.int q.num, .int (q.den : Int)]
@[simp] theorem idx_fr0 (q : Rat) : idxM (fr q) (.int 0) = ret (.int q.num) := by simp [fr]
@[simp] theorem idx_fr1 (q : Rat) : idxM (fr q) (.int 1) = ret (.int (q.den : Int)) := by simp [fr]
@[simp] theorem sh_fr (d : Nat) (q : Rat) : PV.sh (d + 1) (fr q) = true := by simp [fr]
@[simp] theorem shp_fr (q : Rat) : (fr q).shp = true := shp_of (sh_fr 63 q)
@[simp] theorem kn_fr (q : Rat) : (fr q).known = true := rfl
@[simp] theorem ty_fr (q : Rat) (t : Ty) : (fr q).isTy t = decide (t = .tuple) := by simp [fr]
@[simp] theorem items_fr (q : Rat) : itemsM (fr q) = ret [.int q.num, .int (q.den : Int)] := rfl
@[simp] theorem len_fr (q : Rat) : bltM .len [fr q] = ret (.int 2) := rfl
@[simp] theorem truth_fr (q : Rat) : truthM (fr q) = ret true := rfl
@[simp] theorem tg_fr (ts : Tg) (q : Rat) (ρ : Env') : (tgM (.tp ts)).one (fr q) ρ = (tgM ts).many [.int q.num, .int (q.den : Int)] ρ := (rfl)
theorem rat_ext_iff {p q : Rat} : p = q ↔ p.num = q.num ∧ (p.den : Int) = q.den := by
  constructor
  · rintro rfl
    exact ⟨rfl, rfl⟩
  · intro ⟨h1, h2⟩
    exact Rat.ext h1 (by omega)
@[simp] theorem eqv_fr (p q : Rat) : (fr p).eqv (fr q) = decide (p = q) := by
  rw [Bool.eq_iff_iff]
  simp [fr, rat_ext_iff]
@[simp] theorem eqv_frt (q : Rat) (a b : Int) : (fr q).eqv (.tup [.int a, .int b]) = (decide (q.num = a) && decide ((q.den : Int) = b)) := by simp [fr]
@[simp] theorem eqv_tfr (q : Rat) (a b : Int) : (PV.tup [.int a, .int b]).eqv (fr q) = (decide (a = q.num) && decide (b = (q.den : Int))) := by simp [fr]
@[simp] theorem cmp_is_fr (q : Rat) : cmpM .is (fr q) .non = ret false := rfl
@[simp] theorem cmp_nis_fr (q : Rat) : cmpM .nis (fr q) .non = ret true := rfl

theorem den_pos (q : Rat) : 0 < (q.den : Int) := by have := q.den_nz; omega
theorem den_ne (q : Rat) : ¬ ((q.den : Int) = 0) := by have := q.den_nz; omega
@[simp] theorem den_ne2 (q : Rat) : (q.den = 0) = False := eq_false q.den_nz
theorem made_num {a b : Int} (hb : b ≠ 0) : a.fdiv (if 0 < b then (Int.gcd a b : Int) else -(Int.gcd a b : Int)) = (Rat.divInt a b).num := by
  rw [Rat.num_divInt, Int.gcd_comm b a]
  have hg : (Int.gcd a b : Int) ≠ 0 := by
    intro z
    have : Int.gcd a b = 0 := by omega
    rw [Int.gcd_eq_zero_iff] at this
    exact hb this.2
  have hd : (Int.gcd a b : Int) ∣ a := Int.gcd_dvd_left ..
  split
  · rename_i h
    rw [Int.sign_eq_one_of_pos h, Int.one_mul, Int.fdiv_eq_ediv_of_nonneg _ (by omega)]
  · rename_i h
    have hn : b < 0 := by omega
    rw [Int.sign_eq_neg_one_of_neg hn]
    obtain ⟨c, hc⟩ := hd
    rw [show -1 * a = (Int.gcd a b : Int) * (-c) by rw [Int.mul_neg, ← hc]; omega, Int.mul_ediv_cancel_left _ hg]
    conv => lhs; arg 1; rw [hc]
    rw [show (Int.gcd a b : Int) * c = (-(Int.gcd a b : Int)) * (-c) by rw [Int.neg_mul_neg]]
    rw [Int.mul_fdiv_cancel_left _ (by omega)]
theorem made_den {a b : Int} (hb : b ≠ 0) : b.fdiv (if 0 < b then (Int.gcd a b : Int) else -(Int.gcd a b : Int)) = ((Rat.divInt a b).den : Int) := by
  rw [Rat.den_divInt, if_neg hb, Int.gcd_comm b a]
  have hg : (Int.gcd a b : Int) ≠ 0 := by
    intro z
    have : Int.gcd a b = 0 := by omega
    rw [Int.gcd_eq_zero_iff] at this
    exact hb this.2
  have hd : (Int.gcd a b : Int) ∣ b := Int.gcd_dvd_right ..
  obtain ⟨c, hc⟩ := hd
  have gp : 0 < (Int.gcd a b : Int) := by omega
  have key : b.natAbs / Int.gcd a b = c.natAbs := by
    conv => lhs; arg 1; rw [hc]
    rw [Int.natAbs_mul, Int.natAbs_natCast, Nat.mul_div_cancel_left _ (by omega)]
  rw [key]
  split
  · rename_i h
    conv => lhs; arg 1; rw [hc]
    rw [Int.mul_fdiv_cancel_left _ hg]
    have : 0 < c := Int.not_le.mp fun h' => by
      have := Int.mul_le_mul_of_nonneg_left h' (Int.le_of_lt gp)
      rw [← hc, Int.mul_zero] at this
      omega
    omega
  · rename_i h
    conv => lhs; arg 1; rw [hc]
    rw [show (Int.gcd a b : Int) * c = (-(Int.gcd a b : Int)) * (-c) by rw [Int.neg_mul_neg], Int.mul_fdiv_cancel_left _ (by omega)]
    have : c < 0 := Int.not_le.mp fun h' => by
      have := Int.mul_nonneg (Int.le_of_lt gp) h'
      rw [← hc] at this
      omega
    omega
end Rk

set_option maxHeartbeats 4000000
namespace Rk
open PySem PySem.Spec PyProof.Rows L2 M

/-- how many binary figures a fraction takes -/
def bw (q : Rat) : Nat := (max q.num.natAbs q.den).log2 + 1
theorem bw_pos (q : Rat) : 0 < bw q := Nat.succ_pos _
theorem sz_num (q : Rat) : Sz (bw q) q.num := Nat.lt_of_le_of_lt (Nat.le_max_left _ _) Nat.lt_log2_self
theorem sz_den (q : Rat) : Sz (bw q) (q.den : Int) := by
  unfold Sz
  rw [Int.natAbs_natCast]
  exact Nat.lt_of_le_of_lt (Nat.le_max_right _ _) Nat.lt_log2_self
theorem bw_le {q : Rat} {k : Nat} (h1 : Sz k q.num) (h2 : Sz k (q.den : Int)) : bw q ≤ k := by
  have h2 : q.den < 2 ^ k := by simpa [Sz] using h2
  have h1 : q.num.natAbs < 2 ^ k := h1
  have := q.den_nz
  have h3 : max q.num.natAbs q.den < 2 ^ k := by omega
  have := (Nat.log2_lt (show max q.num.natAbs q.den ≠ 0 by omega)).mpr h3
  unfold bw
  omega
theorem natAbs_le_div {a g : Int} : (a / g).natAbs ≤ a.natAbs := Int.natAbs_ediv_le_natAbs a g
theorem bw_divInt {a b : Int} {k : Nat} (ha : Sz k a) (hb : Sz k b) (h : b ≠ 0) : bw (Rat.divInt a b) ≤ k := by
  refine bw_le ?_ ?_
  · rw [Rat.num_divInt]
    refine Nat.lt_of_le_of_lt (Nat.le_trans natAbs_le_div ?_) ha
    rw [Int.natAbs_mul, Int.natAbs_sign_of_ne_zero h]
    omega
  · rw [Rat.den_divInt, if_neg h]
    unfold Sz
    rw [Int.natAbs_natCast]
    exact Nat.lt_of_le_of_lt (Nat.div_le_self _ _) hb
theorem add_eq (p q : Rat) : p + q = Rat.divInt (p.num * q.den + q.num * p.den) (p.den * q.den) := by
  conv => lhs; rw [← Rat.num_divInt_den p, ← Rat.num_divInt_den q]
  rw [Rat.divInt_add_divInt _ _ (den_ne p) (den_ne q)]
theorem mul_eq (p q : Rat) : p * q = Rat.divInt (p.num * q.num) (p.den * q.den) := by
  conv => lhs; rw [← Rat.num_divInt_den p, ← Rat.num_divInt_den q]
  rw [Rat.divInt_mul_divInt]
theorem sub_eq (p q : Rat) : p - q = Rat.divInt (p.num * q.den - q.num * p.den) (p.den * q.den) := by
  rw [Rat.sub_eq_add_neg, add_eq]
  simp [Int.sub_eq_add_neg, Int.neg_mul]
theorem num_ne {q : Rat} (h : q ≠ 0) : q.num ≠ 0 := fun z => h (Rat.num_eq_zero.mp z)
theorem div_eq {p q : Rat} (h : q ≠ 0) : p / q = Rat.divInt (p.num * q.den) (p.den * q.num) := by
  rw [Rat.div_def, Rat.inv_def]
  conv => lhs; rw [← Rat.num_divInt_den p]
  rw [Rat.divInt_mul_divInt]
theorem mden_ne (p q : Rat) : (p.den : Int) * q.den ≠ 0 := Int.mul_ne_zero (den_ne p) (den_ne q)
theorem dnum_ne {p q : Rat} (h : q ≠ 0) : (p.den : Int) * q.num ≠ 0 := Int.mul_ne_zero (den_ne p) (num_ne h)
section
variable {p q : Rat}
theorem sz_nd (p q : Rat) : Sz (bw p + bw q) (p.num * q.den) := (sz_num p).mul (sz_den q)
theorem sz_dn (p q : Rat) : Sz (bw p + bw q) (p.den * q.num) := (sz_den p).mul (sz_num q)
theorem sz_dd (p q : Rat) : Sz (bw p + bw q) ((p.den : Int) * q.den) := (sz_den p).mul (sz_den q)
theorem sz_nn (p q : Rat) : Sz (bw p + bw q) (p.num * q.num) := (sz_num p).mul (sz_num q)
theorem sz_add (p q : Rat) : Sz (bw p + bw q + 1) (p.num * q.den + q.num * p.den) := (sz_nd p q).add (by rw [Nat.add_comm]; exact sz_nd q p)
theorem sz_sub (p q : Rat) : Sz (bw p + bw q + 1) (p.num * q.den - q.num * p.den) := (sz_nd p q).sub (by rw [Nat.add_comm]; exact sz_nd q p)
theorem bw_add (p q : Rat) : bw (p + q) ≤ bw p + bw q + 1 := by
  rw [add_eq]
  exact bw_divInt (sz_add p q) ((sz_dd p q).mono (by omega)) (mden_ne p q)
theorem bw_sub (p q : Rat) : bw (p - q) ≤ bw p + bw q + 1 := by
  rw [sub_eq]
  exact bw_divInt (sz_sub p q) ((sz_dd p q).mono (by omega)) (mden_ne p q)
theorem bw_mul (p q : Rat) : bw (p * q) ≤ bw p + bw q := by
  rw [mul_eq]
  exact bw_divInt (sz_nn p q) (sz_dd p q) (mden_ne p q)
theorem bw_div (p q : Rat) (h : q ≠ 0) : bw (p / q) ≤ bw p + bw q := by
  rw [div_eq h]
  exact bw_divInt (sz_nd p q) (sz_dn p q) (dnum_ne h)
theorem bw_0 : bw 0 = 1 := by decide
theorem bw_1 : bw 1 = 1 := by decide
theorem okp (h : bw p + bw q ≤ 8000) : IntMulOk p.num (q.den : Int) ∧ IntMulOk (p.den : Int) (q.den : Int) ∧ IntMulOk p.num q.num ∧ IntMulOk (p.den : Int) q.num :=
  ⟨(sz_num p).mulOk (sz_den q) (by omega), (sz_den p).mulOk (sz_den q) (by omega), (sz_num p).mulOk (sz_num q) (by omega), (sz_den p).mulOk (sz_num q) (by omega)⟩
end
theorem log2_sz {k : Nat} {i : Int} (h : Sz k i) (hk : k ≤ 9000) (k0 : 0 < k) : i.natAbs.log2 < 9000 := h.log2 hk k0
/-- gcd's own size -/
theorem gcd_sz {k : Nat} {a b : Int} (hb : Sz k b) (h : b ≠ 0) : Sz k (Int.gcd a b : Int) := by
  unfold Sz
  rw [Int.natAbs_natCast]
  have : Int.gcd a b ≤ b.natAbs := Nat.le_of_dvd (by omega) (Int.gcd_dvd_natAbs_right a b)
  exact Nat.lt_of_le_of_lt this hb
theorem gcd_ne {a b : Int} (h : b ≠ 0) : Int.gcd a b ≠ 0 := fun z => h (Int.gcd_eq_zero_iff.mp z).2
/-- what raw_made asks of its two divisions -/
theorem made_ok {k : Nat} {a b : Int} (hb : Sz k b) (h : b ≠ 0) (hk : k ≤ 9000) (k0 : 0 < k) : (if 0 < b then (Int.gcd a b : Int) else -(Int.gcd a b : Int)) ≠ 0 ∧ (if 0 < b then (Int.gcd a b : Int) else -(Int.gcd a b : Int)).natAbs.log2 < 9000 := by
  have g0 := gcd_ne (a := a) h
  have g1 := (gcd_sz (a := a) hb h).log2 hk k0
  have g2 := (gcd_sz (a := a) hb h).neg.log2 hk k0
  split
  · exact ⟨by omega, g1⟩
  · exact ⟨by omega, g2⟩
end Rk

set_option maxHeartbeats 4000000
namespace Rk
open PySem PySem.Spec PyProof.Rows L2 M

/-! ### repr: how long, of which signs -/
theorem sl_app (x y : Str) : (x ++ y).length = x.length + y.length := strLen_append x y
theorem so_app (x y : Str) : PyData.strOk (x ++ y) = (PyData.strOk x && PyData.strOk y) := by
  show (x.cps ++ y.cps).all _ = _
  rw [Array.all_append]
  rfl
theorem so_of (s : String) : PyData.strOk (Str.ofString s) = true := by
  rw [Str.ofString_eq_toList]
  unfold PyData.strOk
  rw [Array.all_eq_true']
  intro n hn
  simp only [List.mem_toArray, List.mem_map] at hn
  obtain ⟨c, _, rfl⟩ := hn
  rw [decide_eq_true_eq]
  have h := c.valid
  unfold UInt32.isValidChar Nat.isValidChar at h
  show c.val.toNat < 0x110000
  omega
theorem tf_len : ∀ (ts : List Str) (k : Nat) (acc : Str), (textFrom k acc ts).length ≤ acc.length + (ts.map fun t => t.length + 2).sum
  | [], k, acc => by simp [textFrom]
  | t :: ts, k, acc => by
    have h := tf_len ts (k + 1) (acc ++ (if k > 0 then ", " else "" : String) ++ t)
    have e : (acc ++ (if k > 0 then ", " else "" : String) ++ t).length ≤ acc.length + 2 + t.length := by
      rw [sl_app, sl_app]
      split
      · have : (Str.ofString ", ").length = 2 := rfl
        omega
      · have : (Str.ofString "").length = 0 := rfl
        omega
    simp only [textFrom, List.map_cons, List.sum_cons]
    omega
theorem tf_ok : ∀ (ts : List Str) (k : Nat) (acc : Str), PyData.strOk acc = true → (∀ t, t ∈ ts → PyData.strOk t = true) → PyData.strOk (textFrom k acc ts) = true
  | [], k, acc, h, _ => h
  | t :: ts, k, acc, h, ht => by
    simp only [textFrom]
    refine tf_ok ts _ _ ?_ fun u hu => ht u (List.mem_cons_of_mem _ hu)
    rw [so_app, so_app, h, ht t List.mem_cons_self]
    split <;> simp [so_of]
theorem jn_len (sep : Str) : ∀ ts : List Str, (Str.join sep ts).length ≤ (ts.map fun t => t.length + sep.length).sum
  | [] => by
    show (Str.ofString "").length ≤ 0
    exact Nat.le_refl _
  | [t] => by
    show t.length ≤ _
    simp
  | t :: u :: ts => by
    have h := jn_len sep (u :: ts)
    show (t ++ sep ++ Str.join sep (u :: ts)).length ≤ _
    rw [sl_app, sl_app]
    simp only [List.map_cons, List.sum_cons] at h ⊢
    omega
theorem jn_ok (sep : Str) (hs : PyData.strOk sep = true) : ∀ ts : List Str, (∀ t, t ∈ ts → PyData.strOk t = true) → PyData.strOk (Str.join sep ts) = true
  | [], _ => by
    show PyData.strOk (Str.ofString "") = true
    exact so_of _
  | [t], h => h t (by simp)
  | t :: u :: ts, h => by
    have ih := jn_ok sep hs (u :: ts) fun v hv => h v (List.mem_cons_of_mem _ hv)
    show PyData.strOk (t ++ sep ++ Str.join sep (u :: ts)) = true
    rw [so_app, so_app, h t List.mem_cons_self, hs, ih]
    rfl
theorem digs_len (n : Nat) (h : n.log2 < 1920) : (Str.ofString (toString (n : Int))).length ≤ 600 := by
  refine toString_length_le (by omega) (by omega) ?_
  have h1 : n < 2 ^ 1920 := by
    rcases Nat.eq_zero_or_pos n with z | z
    · rw [z]
      exact Nat.pos_of_ne_zero (by simp)
    · exact (Nat.log2_lt (by omega)).mp h
  have h2 : (2 : Nat) ^ 1920 ≤ 10 ^ 600 := by decide +kernel
  have h3 : n < 10 ^ 600 := Nat.lt_of_lt_of_le h1 h2
  have e : ((10 : Int) ^ 600) = ((10 ^ 600 : Nat) : Int) := by
    rw [Int.natCast_pow]
    rfl
  rw [e]
  exact Int.ofNat_lt.mpr h3
theorem shown_int (i : Int) : (PyData.int i).shown = Str.ofString (toString i) := rfl
theorem int_len (i : Int) (h : i.natAbs.log2 < 1920) : (Str.ofString (toString i)).length ≤ 601 := by
  rcases Int.eq_nat_or_neg i with ⟨n, hn | hn⟩
  · subst hn
    exact Nat.le_trans (digs_len n (by simpa using h)) (by omega)
  · have h1 : n.log2 < 1920 := by
      rw [hn, Int.natAbs_neg, Int.natAbs_natCast] at h
      exact h
    cases n with
    | zero =>
      rw [hn]
      decide
    | succ m =>
      have e : toString i = "-" ++ toString ((m + 1 : Nat) : Int) := by
        rw [hn]
        rfl
      have d := digs_len (m + 1) h1
      rw [e, PyProof.Rows.ofString_length, String.toList_append, List.length_append]
      rw [PyProof.Rows.ofString_length] at d
      have : "-".toList.length = 1 := rfl
      omega
mutual
/-- what repr is served of, so deep -/
def PV.rk : Nat → PV → Bool
  | _, .non => true
  | _, .bl _ => true
  | _, .int i => decide (i.natAbs.log2 < 1920)
  | 0, .tup _ => false
  | d + 1, .tup xs => PV.rks d xs
  | 0, .lst _ => false
  | d + 1, .lst xs => PV.rks d xs
  | _, _ => false
def PV.rks : Nat → List PV → Bool
  | _, [] => true
  | d, x :: xs => PV.rk d x && PV.rks d xs
end
mutual
def PV.rn : PV → Nat
  | .tup xs => PV.rns xs + 3
  | .lst xs => PV.rns xs + 3
  | _ => 601
def PV.rns : List PV → Nat
  | [] => 0
  | x :: xs => PV.rn x + 2 + PV.rns xs
end
theorem shownAll_eq : ∀ xs : List PyData, PyData.shownAll xs = xs.map PyData.shown
  | [] => rfl
  | x :: xs => by rw [PyData.shownAll, shownAll_eq xs]; rfl
structure Rp (d : Nat) (p : PV) : Prop where
  a : p.plain = true
  b : p.data.showable = true
  c : p.data.depth ≤ d
  d : p.data.shown.length ≤ p.rn
  e : PyData.strOk p.data.shown = true
structure Rps (d : Nat) (xs : List PV) : Prop where
  a : PV.plains xs = true
  b : PyData.showableAll (PV.datas xs) = true
  c : PyData.depthAll (PV.datas xs) ≤ d
  d : ((PyData.shownAll (PV.datas xs)).map fun t => t.length + 2).sum ≤ PV.rns xs
  e : ∀ t, t ∈ PyData.shownAll (PV.datas xs) → PyData.strOk t = true
mutual
theorem rp_of : ∀ (d : Nat) (p : PV), p.rk d = true → Rp d p
  | d, .non, h => ⟨rfl, rfl, Nat.zero_le _, by show (Str.ofString "None").length ≤ 601; decide, so_of "None"⟩
  | d, .bl b, h => by
    refine ⟨rfl, rfl, Nat.zero_le _, ?_, ?_⟩
    · cases b <;> (show (Str.ofString _).length ≤ 601; decide)
    · cases b
      · exact so_of "False"
      · exact so_of "True"
  | d, .int i, h => by
    have h : i.natAbs.log2 < 1920 := by
      unfold PV.rk at h
      simpa using h
    exact ⟨rfl, by simpa [PV.data, PyData.showable] using h, Nat.zero_le _, int_len i h, so_of _⟩
  | 0, .tup xs, h => by simp [PV.rk] at h
  | d + 1, .tup xs, h => by
    have h : PV.rks d xs = true := by simpa [PV.rk] using h
    have r := rps_of d xs h
    refine ⟨r.a, r.b, ?_, ?_, ?_⟩
    · show PyData.depthAll (PV.datas xs) + 1 ≤ d + 1
      have := r.c
      omega
    · show (tupleText (PyData.shownAll (PV.datas xs))).length ≤ PV.rns xs + 3
      unfold tupleText
      rw [sl_app, sl_app]
      have h1 := jn_len (Str.ofString ", ") (PyData.shownAll (PV.datas xs))
      have e1 : (Str.ofString ", ").length = 2 := rfl
      have e2 : (Str.ofString "(").length = 1 := rfl
      rw [e1] at h1
      have h2 := r.d
      have h3 : (Str.ofString (if (PyData.shownAll (PV.datas xs)).length == 1 then ",)" else ")")).length ≤ 2 := by split <;> decide
      omega
    · show PyData.strOk (tupleText (PyData.shownAll (PV.datas xs))) = true
      unfold tupleText
      rw [so_app, so_app, so_of, so_of, jn_ok _ (so_of _) _ r.e]
      rfl
  | 0, .lst xs, h => by simp [PV.rk] at h
  | d + 1, .lst xs, h => by
    have h : PV.rks d xs = true := by simpa [PV.rk] using h
    have r := rps_of d xs h
    refine ⟨r.a, r.b, ?_, ?_, ?_⟩
    · show PyData.depthAll (PV.datas xs) + 1 ≤ d + 1
      have := r.c
      omega
    · show (listText (PyData.shownAll (PV.datas xs))).length ≤ PV.rns xs + 3
      unfold listText
      rw [sl_app]
      have h1 := tf_len (PyData.shownAll (PV.datas xs)) 0 (Str.ofString "[")
      have e1 : (Str.ofString "]").length = 1 := rfl
      have e2 : (Str.ofString "[").length = 1 := rfl
      have h2 := r.d
      omega
    · show PyData.strOk (listText (PyData.shownAll (PV.datas xs))) = true
      unfold listText
      rw [so_app, so_of, tf_ok _ _ _ (so_of _) r.e]
      rfl
  | d, .str _, h => by simp [PV.rk] at h
  | d, .dct _, h => by simp [PV.rk] at h
  | d, .tok _ _, h => by simp [PV.rk] at h
  | d, .fn _, h => by simp [PV.rk] at h
  | d, .scr _, h => by simp [PV.rk] at h
theorem rps_of : ∀ (d : Nat) (xs : List PV), PV.rks d xs = true → Rps d xs
  | d, [], h => ⟨rfl, rfl, Nat.zero_le _, Nat.le_refl _, fun t ht => by cases ht⟩
  | d, x :: xs, h => by
    simp only [PV.rks, Bool.and_eq_true] at h
    have r := rp_of d x h.1
    have s := rps_of d xs h.2
    refine ⟨?_, ?_, ?_, ?_, ?_⟩
    · simp only [PV.plains, r.a, s.a, Bool.and_self]
    · simp only [PV.datas, PyData.showableAll, r.b, s.b, Bool.and_self]
    · simp only [PV.datas, PyData.depthAll]
      have := r.c
      have := s.c
      omega
    · have h1 := r.d
      have h2 := s.d
      simp only [PV.datas, PyData.shownAll, List.map_cons, List.sum_cons, PV.rns]
      omega
    · intro t ht
      simp only [PV.datas, PyData.shownAll, List.mem_cons] at ht
      rcases ht with rfl | ht
      · exact r.e
      · exact s.e t ht
end
theorem repr_ok {p : PV} (h : p.rk 60 = true) (hn : p.rn ≤ 16777216) : bltM .repr [p] = ret (.str p.data.shown) := by
  have r := rp_of 60 p h
  rw [repr_1, req_of ⟨r.a, r.b, r.c, by rw [szl]; exact Nat.le_trans r.d hn⟩]
theorem shown_so {p : PV} (h : p.rk 60 = true) : PyData.strOk p.data.shown = true := (rp_of 60 p h).e
theorem rk_fr {d : Nat} {q : Rat} (h : bw q ≤ 1900) : PV.rk (d + 1) (fr q) = true := by
  have h1 := (sz_num q).mono h
  have h2 := (sz_den q).mono h
  have f : ∀ i : Int, Sz 1900 i → i.natAbs.log2 < 1920 := fun i hi => by
    rcases Nat.eq_zero_or_pos i.natAbs with z | z
    · rw [z]
      decide
    · have := (Nat.log2_lt (by omega)).mpr hi
      omega
  have a := f _ h1
  have b := f _ h2
  simp only [Int.natAbs_natCast] at b
  simp [fr, PV.rk, PV.rks, a, b]
theorem rn_fr (q : Rat) : (fr q).rn = 1209 := rfl
theorem rks_of {d : Nat} : ∀ {xs : List PV}, (∀ x, x ∈ xs → x.rk d = true) → PV.rks d xs = true
  | [], _ => rfl
  | x :: xs, h => by
    simp only [PV.rks, Bool.and_eq_true]
    exact ⟨h x List.mem_cons_self, rks_of fun y hy => h y (List.mem_cons_of_mem _ hy)⟩
theorem rns_le {c : Nat} : ∀ {xs : List PV}, (∀ x, x ∈ xs → x.rn ≤ c) → PV.rns xs ≤ xs.length * (c + 2)
  | [], _ => Nat.zero_le _
  | x :: xs, h => by
    have h1 := h x List.mem_cons_self
    have h2 := rns_le fun y hy => h y (List.mem_cons_of_mem x hy)
    simp only [PV.rns, List.length_cons, Nat.add_mul]
    omega
end Rk

set_option maxHeartbeats 4000000
namespace Rk
open PySem PySem.Spec PyProof.Rows L2 M

/-! ### lists by place -/
theorem atI_get {α : Type} {xs : List α} {i : Nat} (h : i < xs.length) : atI xs (i : Int) = some xs[i] := by
  exact atI_nat (xs := xs) (j := i) (v := xs[i]) (by simp)
theorem atI_getD {ts : List Int} {i : Nat} (h : i < ts.length) : atI ts (i : Int) = some (ts.getD i 0) := by
  rw [atI_get h]
  simp [List.getD_eq_getElem?_getD, h]
theorem atI_getDR {ts : List Rat} {i : Nat} (h : i < ts.length) : atI ts (i : Int) = some (ts.getD i 0) := by
  rw [atI_get h]
  simp [List.getD_eq_getElem?_getD, h]
theorem cut_from {α : Type} (xs : List α) (i : Nat) : cutA xs (some (i : Int)) none = xs.drop i := by
  unfold cutA
  have e1 : HT.sIx xs.length 0 (some (i : Int)) = min i xs.length := HT.sIx_nat _ _ i
  have e2 : HT.sIx xs.length xs.length none = xs.length := rfl
  rw [e1, e2]
  rcases Nat.le_total i xs.length with h | h
  · rw [Nat.min_eq_left h, List.take_of_length_le (by simp)]
  · rw [Nat.min_eq_right h, List.drop_length, List.drop_of_length_le h]
    simp
theorem cut_to {α : Type} (xs : List α) (i : Nat) : cutA xs none (some (i : Int)) = xs.take i := by
  unfold cutA
  have e1 : HT.sIx xs.length xs.length (some (i : Int)) = min i xs.length := HT.sIx_nat _ _ i
  have e2 : HT.sIx xs.length 0 none = 0 := rfl
  rw [e1, e2, List.drop_zero, Nat.sub_zero]
  rcases Nat.le_total i xs.length with h | h
  · rw [Nat.min_eq_left h]
  · rw [Nat.min_eq_right h, List.take_of_length_le h, List.take_of_length_le (Nat.le_refl _)]
@[simp] theorem cut_1 {α : Type} (xs : List α) : cutA xs (some 1) none = xs.drop 1 := cut_from xs 1
theorem zipL_self : ∀ xs : List PV, zipL xs xs = xs.map fun x => PV.tup [x, x]
  | [] => rfl
  | x :: xs => by simp [zipL, zipL_self xs]
theorem map_eq_range {α β : Type} (f : α → β) (xs : List α) (d : α) : xs.map f = (List.range xs.length).map fun i => f (xs.getD i d) := by
  apply List.ext_getElem
  · simp
  · intro i h1 h2
    simp at h1
    simp [List.getD_eq_getElem?_getD, h1]
theorem zip_range {α β : Type} (xs : List α) (ys : List β) (d : α) (e : β) : xs.zip ys = (List.range (min xs.length ys.length)).map fun i => (xs.getD i d, ys.getD i e) := by
  apply List.ext_getElem
  · simp
  · intro i h1 h2
    simp at h1
    have h3 : i < xs.length := by omega
    have h4 : i < ys.length := by omega
    simp [List.getD_eq_getElem?_getD, h3, h4]
theorem zipIdx_range {α : Type} (xs : List α) (d : α) : xs.zipIdx = (List.range xs.length).map fun i => (xs.getD i d, i) := by
  apply List.ext_getElem
  · simp
  · intro i h1 h2
    simp at h1
    simp [List.getD_eq_getElem?_getD, h1]
theorem drop_range {α : Type} (xs : List α) (k : Nat) (d : α) : xs.drop k = (List.range (xs.length - k)).map fun i => xs.getD (k + i) d := by
  apply List.ext_getElem
  · simp
  · intro i h1 h2
    simp at h1
    have : k + i < xs.length := by omega
    simp [List.getD_eq_getElem?_getD, this]

/-! ### sums of fractions -/
def rs (n : Nat) (f : Nat → Rat) : Rat := ((List.range n).map f).sum
theorem rs_0 (f : Nat → Rat) : rs 0 f = 0 := rfl
theorem rsum_append : ∀ xs ys : List Rat, (xs ++ ys).sum = xs.sum + ys.sum
  | [], ys => by simp [Rat.zero_add]
  | x :: xs, ys => by
    simp only [List.cons_append, List.sum_cons]
    rw [rsum_append xs ys, Rat.add_assoc]
theorem rs_succ (n : Nat) (f : Nat → Rat) : rs (n + 1) f = rs n f + f n := by
  unfold rs
  rw [List.range_succ, List.map_append, rsum_append]
  simp [Rat.add_zero]
theorem rs_congr {n : Nat} {f g : Nat → Rat} (h : ∀ i, i < n → f i = g i) : rs n f = rs n g := by
  unfold rs
  congr 1
  apply List.map_congr_left
  intro i hi
  exact h i (by simpa using hi)
theorem rs_add (n : Nat) (f g : Nat → Rat) : rs n (fun i => f i + g i) = rs n f + rs n g := by
  induction n with
  | zero => simp [rs_0, Rat.add_zero]
  | succ n ih =>
    rw [rs_succ, rs_succ, rs_succ, ih]
    grind
theorem rs_sub (n : Nat) (f g : Nat → Rat) : rs n (fun i => f i - g i) = rs n f - rs n g := by
  induction n with
  | zero => simp [rs_0]; grind
  | succ n ih =>
    rw [rs_succ, rs_succ, rs_succ, ih]
    grind
theorem rs_mulL (n : Nat) (c : Rat) (f : Nat → Rat) : rs n (fun i => c * f i) = c * rs n f := by
  induction n with
  | zero => simp [rs_0]
  | succ n ih =>
    rw [rs_succ, rs_succ, ih]
    grind
theorem rs_mulR (n : Nat) (c : Rat) (f : Nat → Rat) : rs n (fun i => f i * c) = rs n f * c := by
  induction n with
  | zero => simp [rs_0]
  | succ n ih =>
    rw [rs_succ, rs_succ, ih]
    grind
theorem rs_zero (n : Nat) : rs n (fun _ => 0) = 0 := by
  induction n with
  | zero => rfl
  | succ n ih =>
    rw [rs_succ, ih]
    grind
/-- what comes behind is nothing -/
theorem rs_cut {m : Nat} (f : Nat → Rat) : ∀ n, m ≤ n → (∀ i, m ≤ i → i < n → f i = 0) → rs n f = rs m f
  | 0, h, _ => by
    have : m = 0 := by omega
    rw [this]
  | n + 1, h, hz => by
    by_cases e : m = n + 1
    · rw [e]
    · rw [rs_succ, rs_cut f n (by omega) (fun i h1 h2 => hz i h1 (by omega)), hz n (by omega) (by omega)]
      grind
theorem rs_shift (n : Nat) (f : Nat → Rat) : rs (n + 1) f = f 0 + rs n (fun i => f (i + 1)) := by
  induction n with
  | zero => rw [rs_succ]; simp [rs_0]; grind
  | succ n ih =>
    rw [rs_succ, ih, rs_succ]
    grind
theorem rs_tele (n : Nat) (f : Nat → Rat) : rs n (fun i => f i - f (i + 1)) = f 0 - f n := by
  induction n with
  | zero => simp [rs_0]; grind
  | succ n ih =>
    rw [rs_succ, ih]
    grind
theorem rs_def (n : Nat) (f : Nat → Rat) : ((List.range n).map f).sum = rs n f := rfl
/-! ### an item by its place -/
def gi (ts : List Int) (i : Nat) : Int := ts.getD i 0
def gq (ts : List Rat) (i : Nat) : Rat := ts.getD i 0
theorem atI_gi {ts : List Int} {i : Nat} (h : i < ts.length) : atI ts (i : Int) = some (gi ts i) := atI_getD h
theorem atI_gq {ts : List Rat} {i : Nat} (h : i < ts.length) : atI ts (i : Int) = some (gq ts i) := atI_getDR h
theorem at0_gi {ts : List Int} (h : 0 < ts.length) : atI ts 0 = some (gi ts 0) := atI_gi (i := 0) h
theorem at0_gq {ts : List Rat} (h : 0 < ts.length) : atI ts 0 = some (gq ts 0) := atI_gq (i := 0) h
theorem atm_gi {ts : List Int} (h : 0 < ts.length) : atI ts (-1) = some (gi ts (ts.length - 1)) := by
  rcases List.eq_nil_or_concat ts with z | ⟨qs, q, z⟩
  · rw [z] at h
    simp at h
  · rw [z]
    simp [List.concat_eq_append, gi]
theorem atm_gq {ts : List Rat} (h : 0 < ts.length) : atI ts (-1) = some (gq ts (ts.length - 1)) := by
  rcases List.eq_nil_or_concat ts with z | ⟨qs, q, z⟩
  · rw [z] at h
    simp at h
  · rw [z]
    simp [List.concat_eq_append, gq]
theorem mem_gi {ts : List Int} {x : Int} (h : x ∈ ts) : ∃ i, i < ts.length ∧ x = gi ts i := by
  obtain ⟨i, hi, e⟩ := List.getElem_of_mem h
  exact ⟨i, hi, by simp [gi, List.getD_eq_getElem?_getD, hi, e]⟩
theorem mem_gq {ts : List Rat} {x : Rat} (h : x ∈ ts) : ∃ i, i < ts.length ∧ x = gq ts i := by
  obtain ⟨i, hi, e⟩ := List.getElem_of_mem h
  exact ⟨i, hi, by simp [gq, List.getD_eq_getElem?_getD, hi, e]⟩
theorem gi_mem {ts : List Int} {i : Nat} (h : i < ts.length) : gi ts i ∈ ts := by
  simp [gi, List.getD_eq_getElem?_getD, h]
theorem gq_mem {ts : List Rat} {i : Nat} (h : i < ts.length) : gq ts i ∈ ts := by
  simp [gq, List.getD_eq_getElem?_getD, h]
theorem gi_out {ts : List Int} {i : Nat} (h : ts.length ≤ i) : gi ts i = 0 := by
  simp [gi, List.getD_eq_getElem?_getD, List.getElem?_eq_none h]
theorem gq_out {ts : List Rat} {i : Nat} (h : ts.length ≤ i) : gq ts i = 0 := by
  simp [gq, List.getD_eq_getElem?_getD, List.getElem?_eq_none h]
theorem zip_tail_gi (ts : List Int) : ts.zip ts.tail = (List.range (ts.length - 1)).map fun i => (gi ts i, gi ts (i + 1)) := by
  rw [zip_range ts ts.tail 0 0]
  simp only [List.length_tail]
  rw [show min ts.length (ts.length - 1) = ts.length - 1 by omega]
  apply List.map_congr_left
  intro i _
  cases ts <;> simp [gi]
theorem zip_tail_gq (ts : List Rat) : ts.zip ts.tail = (List.range (ts.length - 1)).map fun i => (gq ts i, gq ts (i + 1)) := by
  rw [zip_range ts ts.tail 0 0]
  simp only [List.length_tail]
  rw [show min ts.length (ts.length - 1) = ts.length - 1 by omega]
  apply List.map_congr_left
  intro i _
  cases ts <;> simp [gq]
theorem zip_gq (xs ys : List Rat) : xs.zip ys = (List.range (min xs.length ys.length)).map fun i => (gq xs i, gq ys i) := zip_range xs ys 0 0
theorem zip_gi (xs ys : List Int) : xs.zip ys = (List.range (min xs.length ys.length)).map fun i => (gi xs i, gi ys i) := zip_range xs ys 0 0
theorem zipIdx_gq (xs : List Rat) : xs.zipIdx = (List.range xs.length).map fun i => (gq xs i, i) := zipIdx_range xs 0
theorem zipIdx_gi (xs : List Int) : xs.zipIdx = (List.range xs.length).map fun i => (gi xs i, i) := zipIdx_range xs 0
theorem gq_map {n i : Nat} {f : Nat → Rat} (h : i < n) : gq ((List.range n).map f) i = f i := by
  simp [gq, List.getD_eq_getElem?_getD, h]
theorem gi_map {n i : Nat} {f : Nat → Int} (h : i < n) : gi ((List.range n).map f) i = f i := by
  simp [gi, List.getD_eq_getElem?_getD, h]
theorem gi_tail (ts : List Int) (i : Nat) : gi ts.tail i = gi ts (i + 1) := by cases ts <;> simp [gi]
theorem gq_tail (ts : List Rat) (i : Nat) : gq ts.tail i = gq ts (i + 1) := by cases ts <;> simp [gq]
theorem list_gi (ts : List Int) : ts = (List.range ts.length).map (gi ts) := by
  have := map_eq_range (fun x : Int => x) ts 0
  rw [List.map_id'] at this
  exact this
theorem list_gq (ts : List Rat) : ts = (List.range ts.length).map (gq ts) := by
  have := map_eq_range (fun x : Rat => x) ts 0
  rw [List.map_id'] at this
  exact this
theorem drop_gi (ts : List Int) (k : Nat) : ts.drop k = (List.range (ts.length - k)).map fun i => gi ts (k + i) := drop_range ts k 0
theorem drop_gq (ts : List Rat) (k : Nat) : ts.drop k = (List.range (ts.length - k)).map fun i => gq ts (k + i) := drop_range ts k 0
/-! ### lists and tuples of one kind -/
def tpI (ts : List Int) : PV := .tup (ts.map .int)
def lsI (ts : List Int) : PV := .lst (ts.map .int)
def tpF (qs : List Rat) : PV := .tup (qs.map fr)
def lsF (qs : List Rat) : PV := .lst (qs.map fr)
@[simp] theorem items_tpI (ts : List Int) : itemsM (tpI ts) = ret (ts.map .int) := (rfl)
@[simp] theorem items_lsI (ts : List Int) : itemsM (lsI ts) = ret (ts.map .int) := (rfl)
@[simp] theorem items_tpF (ts : List Rat) : itemsM (tpF ts) = ret (ts.map fr) := (rfl)
@[simp] theorem items_lsF (ts : List Rat) : itemsM (lsF ts) = ret (ts.map fr) := (rfl)
@[simp] theorem lst_lsI (ts : List Int) : lstM (lsI ts) = ret (ts.map .int) := (rfl)
@[simp] theorem lst_lsF (ts : List Rat) : lstM (lsF ts) = ret (ts.map fr) := (rfl)
@[simp] theorem len_tpI (ts : List Int) : bltM .len [tpI ts] = ret (.int ts.length) := by simp [tpI]
@[simp] theorem len_lsI (ts : List Int) : bltM .len [lsI ts] = ret (.int ts.length) := by simp [lsI]
@[simp] theorem len_tpF (ts : List Rat) : bltM .len [tpF ts] = ret (.int ts.length) := by simp [tpF]
@[simp] theorem len_lsF (ts : List Rat) : bltM .len [lsF ts] = ret (.int ts.length) := by simp [lsF]
@[simp] theorem kn_tpI (ts : List Int) : (tpI ts).known = true := (rfl)
@[simp] theorem kn_lsI (ts : List Int) : (lsI ts).known = true := (rfl)
@[simp] theorem kn_tpF (ts : List Rat) : (tpF ts).known = true := (rfl)
@[simp] theorem kn_lsF (ts : List Rat) : (lsF ts).known = true := (rfl)
@[simp] theorem ty_tpI (ts : List Int) (t : Ty) : (tpI ts).isTy t = decide (t = .tuple) := by simp [tpI]
@[simp] theorem ty_lsI (ts : List Int) (t : Ty) : (lsI ts).isTy t = decide (t = .list) := by simp [lsI]
@[simp] theorem ty_tpF (ts : List Rat) (t : Ty) : (tpF ts).isTy t = decide (t = .tuple) := by simp [tpF]
@[simp] theorem ty_lsF (ts : List Rat) (t : Ty) : (lsF ts).isTy t = decide (t = .list) := by simp [lsF]
@[simp] theorem rev_tpI (ts : List Int) : revM (tpI ts) = ret (tpI ts.reverse) := by simp [tpI]
@[simp] theorem rev_lsI (ts : List Int) : revM (lsI ts) = ret (lsI ts.reverse) := by simp [lsI]
@[simp] theorem rev_tpF (ts : List Rat) : revM (tpF ts) = ret (tpF ts.reverse) := by simp [tpF]
@[simp] theorem rev_lsF (ts : List Rat) : revM (lsF ts) = ret (lsF ts.reverse) := by simp [lsF]
@[simp] theorem slc_tpI (ts : List Int) (lo hi : Option Int) : slcM (tpI ts) lo hi = ret (tpI (cutA ts lo hi)) := by simp [tpI]
@[simp] theorem slc_lsI (ts : List Int) (lo hi : Option Int) : slcM (lsI ts) lo hi = ret (lsI (cutA ts lo hi)) := by simp [lsI]
@[simp] theorem slc_tpF (ts : List Rat) (lo hi : Option Int) : slcM (tpF ts) lo hi = ret (tpF (cutA ts lo hi)) := by simp [tpF]
@[simp] theorem slc_lsF (ts : List Rat) (lo hi : Option Int) : slcM (lsF ts) lo hi = ret (lsF (cutA ts lo hi)) := by simp [lsF]
@[simp] theorem idx_tpI (ts : List Int) (i : Int) : idxM (tpI ts) (.int i) = @bnd _ _ (ofO (atI ts i)) ⟨fun z => ret (.int z)⟩ := by
  simp [tpI]
  cases atI ts i <;> rfl
@[simp] theorem idx_lsI (ts : List Int) (i : Int) : idxM (lsI ts) (.int i) = @bnd _ _ (ofO (atI ts i)) ⟨fun z => ret (.int z)⟩ := by
  simp [lsI]
  cases atI ts i <;> rfl
@[simp] theorem idx_tpF (ts : List Rat) (i : Int) : idxM (tpF ts) (.int i) = @bnd _ _ (ofO (atI ts i)) ⟨fun z => ret (fr z)⟩ := by
  simp [tpF]
  cases atI ts i <;> rfl
@[simp] theorem idx_lsF (ts : List Rat) (i : Int) : idxM (lsF ts) (.int i) = @bnd _ _ (ofO (atI ts i)) ⟨fun z => ret (fr z)⟩ := by
  simp [lsF]
  cases atI ts i <;> rfl
@[simp] theorem zip_tII (xs ys : List Int) : zipM (tpI xs) (tpI ys) = ret ((xs.zip ys).map fun p => PV.tup [.int p.1, .int p.2]) := by simp [tpI, zipL_map]
@[simp] theorem zip_lII (xs ys : List Int) : zipM (lsI xs) (lsI ys) = ret ((xs.zip ys).map fun p => PV.tup [.int p.1, .int p.2]) := by simp [lsI, zipL_map]
@[simp] theorem zip_tFF (xs ys : List Rat) : zipM (tpF xs) (tpF ys) = ret ((xs.zip ys).map fun p => PV.tup [fr p.1, fr p.2]) := by simp [tpF, zipL_map]
@[simp] theorem zip_lFF (xs ys : List Rat) : zipM (lsF xs) (lsF ys) = ret ((xs.zip ys).map fun p => PV.tup [fr p.1, fr p.2]) := by simp [lsF, zipL_map]
@[simp] theorem zip_tI_lI (xs : List Int) (ys : List Int) : zipM (tpI xs) (lsI ys) = ret ((xs.zip ys).map fun p => PV.tup [.int p.1, .int p.2]) := by simp [tpI, lsI, zipL_map]
@[simp] theorem zip_tI_tF (xs : List Int) (ys : List Rat) : zipM (tpI xs) (tpF ys) = ret ((xs.zip ys).map fun p => PV.tup [.int p.1, fr p.2]) := by simp [tpI, tpF, zipL_map]
@[simp] theorem zip_tI_lF (xs : List Int) (ys : List Rat) : zipM (tpI xs) (lsF ys) = ret ((xs.zip ys).map fun p => PV.tup [.int p.1, fr p.2]) := by simp [tpI, lsF, zipL_map]
@[simp] theorem zip_lI_tI (xs : List Int) (ys : List Int) : zipM (lsI xs) (tpI ys) = ret ((xs.zip ys).map fun p => PV.tup [.int p.1, .int p.2]) := by simp [lsI, tpI, zipL_map]
@[simp] theorem zip_lI_tF (xs : List Int) (ys : List Rat) : zipM (lsI xs) (tpF ys) = ret ((xs.zip ys).map fun p => PV.tup [.int p.1, fr p.2]) := by simp [lsI, tpF, zipL_map]
@[simp] theorem zip_lI_lF (xs : List Int) (ys : List Rat) : zipM (lsI xs) (lsF ys) = ret ((xs.zip ys).map fun p => PV.tup [.int p.1, fr p.2]) := by simp [lsI, lsF, zipL_map]
@[simp] theorem zip_tF_tI (xs : List Rat) (ys : List Int) : zipM (tpF xs) (tpI ys) = ret ((xs.zip ys).map fun p => PV.tup [fr p.1, .int p.2]) := by simp [tpF, tpI, zipL_map]
@[simp] theorem zip_tF_lI (xs : List Rat) (ys : List Int) : zipM (tpF xs) (lsI ys) = ret ((xs.zip ys).map fun p => PV.tup [fr p.1, .int p.2]) := by simp [tpF, lsI, zipL_map]
@[simp] theorem zip_tF_lF (xs : List Rat) (ys : List Rat) : zipM (tpF xs) (lsF ys) = ret ((xs.zip ys).map fun p => PV.tup [fr p.1, fr p.2]) := by simp [tpF, lsF, zipL_map]
@[simp] theorem zip_lF_tI (xs : List Rat) (ys : List Int) : zipM (lsF xs) (tpI ys) = ret ((xs.zip ys).map fun p => PV.tup [fr p.1, .int p.2]) := by simp [lsF, tpI, zipL_map]
@[simp] theorem zip_lF_lI (xs : List Rat) (ys : List Int) : zipM (lsF xs) (lsI ys) = ret ((xs.zip ys).map fun p => PV.tup [fr p.1, .int p.2]) := by simp [lsF, lsI, zipL_map]
@[simp] theorem zip_lF_tF (xs : List Rat) (ys : List Rat) : zipM (lsF xs) (tpF ys) = ret ((xs.zip ys).map fun p => PV.tup [fr p.1, fr p.2]) := by simp [lsF, tpF, zipL_map]
@[simp] theorem srt_tpI (ts : List Int) : bltM .sorted [tpI ts] = ret (lsI (isort ts)) := by simp [tpI, lsI]
@[simp] theorem srt_lsI (ts : List Int) : bltM .sorted [lsI ts] = ret (lsI (isort ts)) := by simp [lsI]
@[simp] theorem tup_lsI (ts : List Int) : bltM .tuple [lsI ts] = ret (tpI ts) := (rfl)
@[simp] theorem tup_lsF (ts : List Rat) : bltM .tuple [lsF ts] = ret (tpF ts) := (rfl)
@[simp] theorem sh_tpI (d : Nat) (ts : List Int) : PV.sh (d + 1) (tpI ts) = true := by simp [tpI, shs_ints]
@[simp] theorem sh_lsI (d : Nat) (ts : List Int) : PV.sh (d + 1) (lsI ts) = true := by simp [lsI, shs_ints]
@[simp] theorem sh_tpF (d : Nat) (ts : List Rat) : PV.sh (d + 2) (tpF ts) = true := by simp [tpF, shs_map]
@[simp] theorem sh_lsF (d : Nat) (ts : List Rat) : PV.sh (d + 2) (lsF ts) = true := by simp [lsF, shs_map]
@[simp] theorem shp_tpI (ts : List Int) : (tpI ts).shp = true := shp_of (sh_tpI 63 ts)
@[simp] theorem shp_lsI (ts : List Int) : (lsI ts).shp = true := shp_of (sh_lsI 63 ts)
@[simp] theorem shp_tpF (ts : List Rat) : (tpF ts).shp = true := shp_of (sh_tpF 62 ts)
@[simp] theorem shp_lsF (ts : List Rat) : (lsF ts).shp = true := shp_of (sh_lsF 62 ts)
@[simp] theorem eqv_tpI (xs ys : List Int) : (tpI xs).eqv (tpI ys) = decide (xs = ys) := eqv_tupI
@[simp] theorem eqv_lsI (xs ys : List Int) : (lsI xs).eqv (lsI ys) = decide (xs = ys) := eqv_lstI
theorem eqv_tupF : ∀ {xs ys : List Rat}, (PV.tup (xs.map fr)).eqv (.tup (ys.map fr)) = decide (xs = ys)
  | [], [] => rfl
  | [], _ :: _ => rfl
  | _ :: _, [] => rfl
  | x :: xs, y :: ys => by
    rw [List.map_cons, List.map_cons, eqv_tupC, eqv_tupF, eqv_fr, Bool.eq_iff_iff]
    simp
theorem eqv_lstF : ∀ {xs ys : List Rat}, (PV.lst (xs.map fr)).eqv (.lst (ys.map fr)) = decide (xs = ys)
  | [], [] => rfl
  | [], _ :: _ => rfl
  | _ :: _, [] => rfl
  | x :: xs, y :: ys => by
    rw [List.map_cons, List.map_cons, eqv_lstC, eqv_lstF, eqv_fr, Bool.eq_iff_iff]
    simp
@[simp] theorem eqv_tpF (xs ys : List Rat) : (tpF xs).eqv (tpF ys) = decide (xs = ys) := eqv_tupF
@[simp] theorem eqv_lsF (xs ys : List Rat) : (lsF xs).eqv (lsF ys) = decide (xs = ys) := eqv_lstF
@[simp] theorem ints_lsI (ts : List Int) : intsM [lsI ts] = ret ts := by simp [lsI, intsM]
theorem lsF_def (qs : List Rat) : PV.lst (qs.map fr) = lsF qs := rfl
theorem tpF_def (qs : List Rat) : PV.tup (qs.map fr) = tpF qs := rfl
theorem lsI_def (qs : List Int) : PV.lst (qs.map .int) = lsI qs := rfl
theorem tpI_def (qs : List Int) : PV.tup (qs.map .int) = tpI qs := rfl
theorem lsF_mk {α : Type} (g : α → Rat) (ts : List α) : PV.lst (ts.map fun t => fr (g t)) = lsF (ts.map g) := by simp [lsF]
theorem tpF_mk {α : Type} (g : α → Rat) (ts : List α) : PV.tup (ts.map fun t => fr (g t)) = tpF (ts.map g) := by simp [tpF]
theorem lsI_mk {α : Type} (g : α → Int) (ts : List α) : PV.lst (ts.map fun t => .int (g t)) = lsI (ts.map g) := by simp [lsI]
theorem tpI_mk {α : Type} (g : α → Int) (ts : List α) : PV.tup (ts.map fun t => .int (g t)) = tpI (ts.map g) := by simp [tpI]
theorem lsF_lit2 (p q : Rat) : PV.lst [fr p, fr q] = lsF [p, q] := rfl
theorem lsF_lit3 (p q r : Rat) : PV.lst [fr p, fr q, fr r] = lsF [p, q, r] := rfl
theorem enumL_F (qs : List Rat) : enumL 0 (qs.map fr) = (List.range qs.length).map fun (i : Nat) => PV.tup [.int (i : Int), fr (gq qs i)] := by
  rw [enumL_map, zipIdx_gq]
  simp [Function.comp_def]
theorem enumL_I (qs : List Int) : enumL 0 (qs.map .int) = (List.range qs.length).map fun (i : Nat) => PV.tup [.int (i : Int), .int (gi qs i)] := by
  rw [enumL_map, zipIdx_gi]
  simp [Function.comp_def]
theorem rng_nat (n : Nat) : rngL 0 n = (List.range n).map fun (k : Nat) => PV.int (k : Int) := by simp [rngL_eq]
theorem bw_rs {n B : Nat} {f : Nat → Rat} (h : ∀ i, bw (f i) ≤ B) : ∀ q, q ∈ (List.range n).map f → bw q ≤ B := fun q hq => by
  obtain ⟨i, _, rfl⟩ := List.mem_map.mp hq
  exact h i
theorem wp_any {α β γ : Type} {m : M α} {P : β → Prop} {g : β → α} {k : Kt α γ} {Q : γ → Prop} {E : Exn → Prop} (h : Any m P g) (q : ∀ b, P b → (k.f (g b)).wp Q E) : (@bnd _ _ m k).wp Q E := by
  rw [wp_bd]
  exact h _ _ q
theorem fr_lit {q : Rat} {a b : Int} (h : decide (q.num = a ∧ (q.den : Int) = b) = true) : fr q = .tup [.int a, .int b] := by
  simp at h
  simp [fr, h]
end Rk

set_option maxHeartbeats 4000000
namespace Rk
open PySem PySem.Spec PyProof.Rows L2 M

/-! ### the program's own errors, all at once -/
abbrev veL : List Value := [.type "ValueError", .type "Exception", .type "BaseException", .type "object"]
def cls1 (K : PySem.W.Frag) (D : Addr) : Bool :=
  PySem.W.excIn K D veL "ValueError.__new__" && PySem.W.keepIn K (.ref D) && (PySem.W.subIn K (.ref D) (.type "BaseException") == some true) && (PySem.W.typeIn K (.ref D) == some (.type "type")) &&
  (PySem.W.findIn K (.ref D) "__getattribute__" == some (some (.builtin "BaseException.__getattribute__"))) && (PySem.W.findIn K (.ref D) "__getattr__" == some none) && PySem.W.hasDictIn K D &&
  (PySem.W.findIn K (.ref D) "__class__" == some (some (.builtin "object.__class__"))) && (PySem.W.mroIn K D (.type "object") == some true) && (PySem.W.kitOne K (.ref D) (.type "ValueError") == some true)
def clsOk (K : PySem.W.Frag) (Ds : List Addr) : Bool :=
  (PySem.W.specialIn K (.builtin "object.__class__") "__get__" == some (some (.builtin "getset_descriptor.__get__"))) && (PySem.W.takesIn K (.builtin "object.__class__") == some true) && Ds.all (cls1 K) &&
  (List.range Ds.length).all fun i => (List.range Ds.length).all fun j => (PySem.W.kitOne K (.ref (Ds.getD i 0)) (.ref (Ds.getD j 0)) == some (sb0 i j)) && (PySem.W.exmOne K (.ref (Ds.getD i 0)) (.ref (Ds.getD j 0)) == some (sb0 i j))
structure ClsAll (C : Cfg) (mg : Str → Option Value) (cl : Nat → Option Str) (cnV : Nat → PV) : Prop where
  crs : Crs ⟨cl⟩ C mg
  cls : ∀ i x, cl i = some x → ∃ D, mg x = some (.ref D) ∧ C.ca i = some D ∧ (∀ j' D', C.ca j' = some D' → PySem.W.kitOne C.K (.ref D') (.ref D) = some (sb0 j' i) ∧ PySem.W.exmOne C.K (.ref D') (.ref D) = some (sb0 j' i))
  exc : ∀ i D, C.ca i = some D → ExcC C.K D ∧ PySem.W.kitOne C.K (.ref D) (.type "ValueError") = some true
theorem cls_all {C : Cfg} {mg : Str → Option Value} {names : List Str} {Ds : List Addr} {cnV : Nat → PV} (hl : names.length = Ds.length) (hca : C.ca = fun i => Ds[i]?) (ok : clsOk C.K Ds = true)
    (hm : ∀ i, i < names.length → mg (names.getD i "") = some (.ref (Ds.getD i 0))) : ClsAll C mg (fun i => names[i]?) cnV := by
  unfold clsOk at ok
  simp only [Bool.and_eq_true] at ok
  obtain ⟨⟨⟨o1, o2⟩, o3⟩, o4⟩ := ok
  have one : ∀ i D, Ds[i]? = some D → cls1 C.K D = true := fun i D e => List.all_eq_true.mp o3 D (List.mem_of_getElem? e)
  have ex : ∀ i D, C.ca i = some D → ExcC C.K D ∧ PySem.W.kitOne C.K (.ref D) (.type "ValueError") = some true := fun i D e => by
    rw [hca] at e
    have h := one i D e
    unfold cls1 at h
    simp only [Bool.and_eq_true] at h
    obtain ⟨⟨⟨⟨⟨⟨⟨⟨⟨h1, h2⟩, h3⟩, h4⟩, h5⟩, h6⟩, h7⟩, h8⟩, h9⟩, h10⟩ := h
    exact ⟨⟨eq_of_beq h5, eq_of_beq h6, eq_of_beq h3, h7, eq_of_beq h8, eq_of_beq o1, eq_of_beq o2, eq_of_beq h9⟩, eq_of_beq h10⟩
  have at_ : ∀ i x, names[i]? = some x → ∃ D, mg x = some (.ref D) ∧ Ds[i]? = some D ∧ i < Ds.length := fun i x e => by
    obtain ⟨h1, h2⟩ := List.getElem?_eq_some_iff.mp e
    have h3 : i < Ds.length := by omega
    have h4 := hm i h1
    rw [List.getD_eq_getElem?_getD, e, List.getD_eq_getElem?_getD, List.getElem?_eq_getElem h3] at h4
    exact ⟨Ds[i], h4, List.getElem?_eq_getElem h3, h3⟩
  refine ⟨⟨fun c x e => ?_⟩, fun i x e => ?_, ex⟩
  · obtain ⟨D, h1, h2, h3⟩ := at_ c x e
    have h := one c D h2
    unfold cls1 at h
    simp only [Bool.and_eq_true] at h
    obtain ⟨⟨⟨⟨⟨⟨⟨⟨⟨k1, k2⟩, k3⟩, k4⟩, k5⟩, k6⟩, k7⟩, k8⟩, k9⟩, k10⟩ := h
    exact ⟨D, veL, _, _, _, PySem.F.excBase_ValueError, k1, h1, k2, eq_of_beq k3, eq_of_beq k4, by rw [hca]; exact h2⟩
  · obtain ⟨D, h1, h2, h3⟩ := at_ i x e
    refine ⟨D, h1, by rw [hca]; exact h2, fun j' D' e' => ?_⟩
    have e' : Ds[j']? = some D' := by rw [hca] at e'; exact e'
    obtain ⟨l1, l2⟩ := List.getElem?_eq_some_iff.mp e'
    have h4 := List.all_eq_true.mp (List.all_eq_true.mp o4 j' (List.mem_range.mpr l1)) i (List.mem_range.mpr h3)
    simp only [Bool.and_eq_true] at h4
    rw [List.getD_eq_getElem?_getD, e', List.getD_eq_getElem?_getD, h2] at h4
    exact ⟨eq_of_beq h4.1, eq_of_beq h4.2⟩
theorem cls_none {C : Cfg} {mg : Str → Option Value} {cnV : Nat → PV} (hca : C.ca = fun _ => none) : ClsAll C mg (fun i => ([] : List Str)[i]?) cnV :=
  ⟨⟨fun c x e => by simp at e⟩, fun i x e => by simp at e, fun i D e => by rw [hca] at e; cases e⟩
theorem tb_uniq : ∀ {T : List (Addr × Str)}, (T.map (·.1)).Nodup → ∀ {P : Addr} {q : Str}, (P, q) ∈ T → ∀ p, p ∈ T → p.1 = P → p.2 = q
  | [], _, _, _, hm => by cases hm
  | t :: T, h, P, q, hm => fun p hp e => by
    simp only [List.map_cons, List.nodup_cons] at h
    rcases List.mem_cons.mp hm with z | hm
    · rcases List.mem_cons.mp hp with y | hp
      · rw [y, ← z]
      · exact absurd (List.mem_map.mpr ⟨p, hp, by rw [e, ← z]⟩) h.1
    · rcases List.mem_cons.mp hp with y | hp
      · exact absurd (List.mem_map.mpr ⟨_, hm, by rw [← y, e]⟩) h.1
      · exact tb_uniq h.2 hm p hp e
end Rk

set_option maxHeartbeats 4000000
namespace Rk
open PySem PySem.Spec PyProof.Rows L2 M

/-- what a piece of code leads to, closed up: so it is not run where it is only handed on -/
@[irreducible] noncomputable def hw {α : Type} (m : M α) (Q : α → Prop) (E : Exn → Prop) : Prop := m.wp Q E
theorem hw_eq {α : Type} (m : M α) (Q : α → Prop) (E : Exn → Prop) : hw m Q E = m.wp Q E := by
  unfold hw
  rfl
/-! ### loops by place -/
section
variable {S : MSig} {tg : Tg} {body : Sx} {E : Exn → Prop} {I : Nat → Env' → Prop}
theorem for_idxK : ∀ (items : List PV) (k : Nat), (∀ i x, items[i]? = some x → ∀ ρ, I (k + i) ρ → (@bnd _ _ ((tgM tg).one x ρ) ⟨fun ρ' => evS S body ρ'⟩).wp (fun o => ∃ ρ', o = .nx ρ' ∧ I (k + i + 1) ρ') E) →
    ∀ ρ, I k ρ → (forL S tg body items ρ).wp (fun o => ∃ ρ', o = .nx ρ' ∧ I (k + items.length) ρ') E
  | [], k, h, ρ, i => by
    rw [for_nil]
    exact ⟨ρ, rfl, i⟩
  | x :: xs, k, h, ρ, i => by
    have h1 := h 0 x rfl ρ i
    rw [for_cons, wp_bd]
    rw [wp_bd] at h1
    refine wp_mono (fun ρ1 h1 => ?_) (fun _ z => z) _ h1
    show (@bnd _ _ (evS S body ρ1) ⟨Oc.lp fun ρ2 => forL S tg body xs ρ2⟩).wp _ _
    rw [wp_bd]
    refine wp_mono (fun o ho => ?_) (fun _ z => z) _ h1
    obtain ⟨ρ2, rfl, i2⟩ := ho
    have := for_idxK xs (k + 1) (fun j y e ρ hi => by
      have e2 : k + 1 + j = k + (j + 1) := by omega
      rw [e2] at hi ⊢
      exact h (j + 1) y (by simpa using e) ρ hi) ρ2 i2
    rw [List.length_cons, show k + (xs.length + 1) = k + 1 + xs.length by omega]
    exact this
/-- a loop, turn by turn: what holds at each place -/
theorem for_idx (items : List PV) (h : ∀ i x, items[i]? = some x → ∀ ρ, I i ρ → (@bnd _ _ ((tgM tg).one x ρ) ⟨fun ρ' => evS S body ρ'⟩).wp (fun o => ∃ ρ', o = .nx ρ' ∧ I (i + 1) ρ') E) :
    ∀ ρ, I 0 ρ → (forL S tg body items ρ).wp (fun o => ∃ ρ', o = .nx ρ' ∧ I items.length ρ') E := fun ρ i => by
  have := for_idxK (I := I) items 0 (fun i x e ρ hi => by
    rw [Nat.zero_add] at hi ⊢
    exact h i x e ρ hi) ρ i
  rw [Nat.zero_add] at this
  exact this
theorem for_eqK : ∀ (items : List PV) (k : Nat), (∀ i x, items[i]? = some x → ∀ ρ, I (k + i) ρ → ∃ ρ', @bnd _ _ ((tgM tg).one x ρ) ⟨fun ρ' => evS S body ρ'⟩ = ret (.nx ρ') ∧ I (k + i + 1) ρ') →
    ∀ ρ, I k ρ → ∃ ρ', forL S tg body items ρ = ret (.nx ρ') ∧ I (k + items.length) ρ'
  | [], k, h, ρ, i => ⟨ρ, for_nil, i⟩
  | x :: xs, k, h, ρ, i => by
    obtain ⟨ρ1, h1, i1⟩ := h 0 x rfl ρ i
    obtain ⟨ρ2, h2, i2⟩ := for_eqK xs (k + 1) (fun j y e ρ hi => by
      have e2 : k + 1 + j = k + (j + 1) := by omega
      rw [e2] at hi ⊢
      exact h (j + 1) y (by simpa using e) ρ hi) ρ1 i1
    refine ⟨ρ2, ?_, by rw [List.length_cons, show k + (xs.length + 1) = k + 1 + xs.length by omega]; exact i2⟩
    rw [for_cons]
    have e : (@bnd _ _ ((tgM tg).one x ρ) ⟨fun ρ' => @bnd _ _ (evS S body ρ') ⟨Oc.lp fun ρ2 => forL S tg body xs ρ2⟩⟩) = @bnd _ _ (@bnd _ _ ((tgM tg).one x ρ) ⟨fun ρ' => evS S body ρ'⟩) ⟨Oc.lp fun ρ2 => forL S tg body xs ρ2⟩ := (bind_as ((tgM tg).one x ρ) ⟨fun ρ' => evS S body ρ'⟩ ⟨Oc.lp fun ρ2 => forL S tg body xs ρ2⟩).symm
    rw [e, h1]
    simp
    exact h2
/-- a loop without draws -/
theorem for_eq (items : List PV) (h : ∀ i x, items[i]? = some x → ∀ ρ, I i ρ → ∃ ρ', @bnd _ _ ((tgM tg).one x ρ) ⟨fun ρ' => evS S body ρ'⟩ = ret (.nx ρ') ∧ I (i + 1) ρ') :
    ∀ ρ, I 0 ρ → ∃ ρ', forL S tg body items ρ = ret (.nx ρ') ∧ I items.length ρ' := fun ρ i => by
  obtain ⟨ρ', h1, h2⟩ := for_eqK (I := I) items 0 (fun i x e ρ hi => by
    rw [Nat.zero_add] at hi ⊢
    exact h i x e ρ hi) ρ i
  rw [Nat.zero_add] at h2
  exact ⟨ρ', h1, h2⟩
end
theorem rng_get {n i : Nat} {x : PV} (h : (rngL 0 n)[i]? = some x) : i < n ∧ x = .int (i : Int) := by
  rw [rng_nat, List.getElem?_map] at h
  by_cases hi : i < n
  · rw [List.getElem?_range hi] at h
    cases h
    exact ⟨hi, rfl⟩
  · rw [List.getElem?_eq_none (by simpa using hi)] at h
    cases h
theorem rng_len (n : Nat) : (rngL 0 n).length = n := by simp [rngL_eq]
theorem map_get {α : Type} {f : α → PV} {ts : List α} {i : Nat} {x : PV} (h : (ts.map f)[i]? = some x) : ∃ t, ts[i]? = some t ∧ x = f t := by
  rw [List.getElem?_map] at h
  cases e : ts[i]? with
  | none => rw [e] at h; cases h
  | some t => rw [e] at h; cases h; exact ⟨t, rfl, rfl⟩
section
variable {S : MSig} {tg : Tg} {body : Sx} {E : Exn → Prop} {γ : Type} {Q : γ → Prop}
/-- a loop and what follows it -/
theorem for_bd {items : List PV} {ρ : Env'} {k : Kt Oc γ} (I : Nat → Env' → Prop) (h0 : I 0 ρ) (h : ∀ i x, items[i]? = some x → ∀ ρ, I i ρ → (@bnd _ _ ((tgM tg).one x ρ) ⟨fun ρ' => evS S body ρ'⟩).wp (fun o => ∃ ρ', o = .nx ρ' ∧ I (i + 1) ρ') E)
    (hk : ∀ ρ', I items.length ρ' → (k.f (.nx ρ')).wp Q E) : (@bnd _ _ (forL S tg body items ρ) k).wp Q E := by
  rw [wp_bd]
  refine wp_mono (fun o ho => ?_) (fun _ z => z) _ (for_idx (I := I) items h ρ h0)
  obtain ⟨ρ', rfl, hi⟩ := ho
  exact hk ρ' hi
theorem for_rg {n : Nat} {ρ : Env'} {k : Kt Oc γ} (I : Nat → Env' → Prop) (h0 : I 0 ρ) (h : ∀ i, i < n → ∀ ρ, I i ρ → (@bnd _ _ ((tgM tg).one (.int i) ρ) ⟨fun ρ' => evS S body ρ'⟩).wp (fun o => ∃ ρ', o = .nx ρ' ∧ I (i + 1) ρ') E)
    (hk : ∀ ρ', I n ρ' → (k.f (.nx ρ')).wp Q E) : (@bnd _ _ (forL S tg body (rngL 0 n) ρ) k).wp Q E :=
  for_bd I h0 (fun i x hx ρ hi => by
    obtain ⟨hi2, rfl⟩ := rng_get hx
    exact h i hi2 ρ hi) fun ρ' hi => hk ρ' (by rw [rng_len] at hi; exact hi)
end
/-! ### repr of what is small -/
theorem repr_is {p : PV} (h : p.rk 60 = true) (hn : p.rn ≤ 16777216) : bltM .repr [p] = ret (.str p.data.shown) ∧ PyData.strOk p.data.shown = true := ⟨repr_ok h hn, shown_so h⟩
theorem log_small {i : Int} {k : Nat} (h : Sz k i) (hk : k ≤ 1900) : i.natAbs.log2 < 1920 := by
  rcases Nat.eq_zero_or_pos i.natAbs with z | z
  · rw [z]
    decide
  · have := (Nat.log2_lt (by omega)).mpr (h.mono hk)
    omega
theorem rk_int {d : Nat} {i : Int} {k : Nat} (h : Sz k i) (hk : k ≤ 1900) : PV.rk d (.int i) = true := by
  have := log_small h hk
  unfold PV.rk
  simp [this]
theorem rk_tup {d : Nat} {xs : List PV} (h : ∀ x, x ∈ xs → x.rk d = true) : PV.rk (d + 1) (.tup xs) = true := by
  rw [PV.rk]
  exact rks_of h
theorem rk_lst {d : Nat} {xs : List PV} (h : ∀ x, x ∈ xs → x.rk d = true) : PV.rk (d + 1) (.lst xs) = true := by
  rw [PV.rk]
  exact rks_of h
theorem rk_tpI {d : Nat} {ts : List Int} {k : Nat} (h : ∀ t, t ∈ ts → Sz k t) (hk : k ≤ 1900) : PV.rk (d + 1) (tpI ts) = true := rk_tup fun x hx => by
  obtain ⟨t, ht, rfl⟩ := List.mem_map.mp hx
  exact rk_int (h t ht) hk
theorem rn_int (i : Int) : (PV.int i).rn = 601 := rfl
theorem rn_tup (xs : List PV) : (PV.tup xs).rn = PV.rns xs + 3 := rfl
theorem rn_lst (xs : List PV) : (PV.lst xs).rn = PV.rns xs + 3 := rfl
theorem rn_tpI (ts : List Int) : (tpI ts).rn ≤ ts.length * 603 + 3 := by
  have := rns_le (c := 601) (xs := ts.map .int) fun x hx => by
    obtain ⟨t, _, rfl⟩ := List.mem_map.mp hx
    exact Nat.le_refl _
  rw [List.length_map] at this
  show PV.rns _ + 3 ≤ _
  omega
theorem repr_fr {q : Rat} (h : bw q ≤ 1900) : bltM .repr [fr q] = ret (.str (fr q).data.shown) ∧ PyData.strOk (fr q).data.shown = true := repr_is (rk_fr h) (by rw [rn_fr]; omega)
theorem repr_non : bltM .repr [.non] = ret (.str PV.non.data.shown) ∧ PyData.strOk PV.non.data.shown = true := repr_is rfl (by show 601 ≤ _; omega)
theorem repr_int {i : Int} {k : Nat} (h : Sz k i) (hk : k ≤ 1900) : bltM .repr [.int i] = ret (.str (PV.int i).data.shown) ∧ PyData.strOk (PV.int i).data.shown = true := repr_is (rk_int h hk) (by rw [rn_int]; omega)
theorem repr_bl (b : Bool) : bltM .repr [.bl b] = ret (.str (PV.bl b).data.shown) ∧ PyData.strOk (PV.bl b).data.shown = true := repr_is rfl (by show 601 ≤ _; omega)
theorem repr_tpI {ts : List Int} {k : Nat} (h : ∀ t, t ∈ ts → Sz k t) (hk : k ≤ 1900) (hl : ts.length ≤ 10000) : bltM .repr [tpI ts] = ret (.str (tpI ts).data.shown) ∧ PyData.strOk (tpI ts).data.shown = true :=
  repr_is (rk_tpI h hk) (by have := rn_tpI ts; omega)
/-! ### rows of ints -/
def tp2 (rs : List (List Int)) : PV := .tup (rs.map tpI)
def ls2 (rs : List (List Int)) : PV := .lst (rs.map tpI)
@[simp] theorem items_tp2 (ts : List (List Int)) : itemsM (tp2 ts) = ret (ts.map tpI) := (rfl)
@[simp] theorem items_ls2 (ts : List (List Int)) : itemsM (ls2 ts) = ret (ts.map tpI) := (rfl)
@[simp] theorem len_tp2 (ts : List (List Int)) : bltM .len [tp2 ts] = ret (.int ts.length) := by simp [tp2]
@[simp] theorem len_ls2 (ts : List (List Int)) : bltM .len [ls2 ts] = ret (.int ts.length) := by simp [ls2]
@[simp] theorem kn_tp2 (ts : List (List Int)) : (tp2 ts).known = true := (rfl)
@[simp] theorem ty_tp2 (ts : List (List Int)) (t : Ty) : (tp2 ts).isTy t = decide (t = .tuple) := by simp [tp2]
@[simp] theorem idx_tp2 (ts : List (List Int)) (i : Int) : idxM (tp2 ts) (.int i) = @bnd _ _ (ofO (atI ts i)) ⟨fun z => ret (tpI z)⟩ := by
  simp [tp2]
  cases atI ts i <;> rfl
@[simp] theorem idx_ls2 (ts : List (List Int)) (i : Int) : idxM (ls2 ts) (.int i) = @bnd _ _ (ofO (atI ts i)) ⟨fun z => ret (tpI z)⟩ := by
  simp [ls2]
  cases atI ts i <;> rfl
@[simp] theorem slc_tp2 (ts : List (List Int)) (lo hi : Option Int) : slcM (tp2 ts) lo hi = ret (tp2 (cutA ts lo hi)) := by simp [tp2]
@[simp] theorem slc_ls2 (ts : List (List Int)) (lo hi : Option Int) : slcM (ls2 ts) lo hi = ret (ls2 (cutA ts lo hi)) := by simp [ls2]
@[simp] theorem tup_ls2 (ts : List (List Int)) : bltM .tuple [ls2 ts] = ret (tp2 ts) := (rfl)
@[simp] theorem rev_tp2 (ts : List (List Int)) : revM (tp2 ts) = ret (tp2 ts.reverse) := by simp [tp2]
theorem tp2_mk {α : Type} (g : α → List Int) (ts : List α) : PV.tup (ts.map fun t => tpI (g t)) = tp2 (ts.map g) := by simp [tp2]
theorem ls2_mk {α : Type} (g : α → List Int) (ts : List α) : PV.lst (ts.map fun t => tpI (g t)) = ls2 (ts.map g) := by simp [ls2]
theorem tp2_def (ts : List (List Int)) : PV.tup (ts.map tpI) = tp2 ts := rfl
theorem ls2_def (ts : List (List Int)) : PV.lst (ts.map tpI) = ls2 ts := rfl
@[simp] theorem sh_tp2 (d : Nat) (ts : List (List Int)) : PV.sh (d + 2) (tp2 ts) = true := by simp [tp2, shs_map]
@[simp] theorem shp_tp2 (ts : List (List Int)) : (tp2 ts).shp = true := shp_of (sh_tp2 62 ts)
@[simp] theorem sum_tpI (ts : List Int) : bltM .sum [tpI ts] = ret (.int ts.sum) := by simp [tpI]
@[simp] theorem sum_lsI (ts : List Int) : bltM .sum [lsI ts] = ret (.int ts.sum) := by simp [lsI]
@[simp] theorem max_tpI (ts : List Int) : bltM .max [tpI ts] = req (0 < ts.length) (ret (.int (maxL ts))) := by simp [tpI]
@[simp] theorem min_tpI (ts : List Int) : bltM .min [tpI ts] = req (0 < ts.length) (ret (.int (minL ts))) := by simp [tpI]
@[simp] theorem max_lsI (ts : List Int) : bltM .max [lsI ts] = req (0 < ts.length) (ret (.int (maxL ts))) := by simp [lsI]
@[simp] theorem min_lsI (ts : List Int) : bltM .min [lsI ts] = req (0 < ts.length) (ret (.int (minL ts))) := by simp [lsI]
theorem atI_at {α : Type} {xs : List α} {i : Nat} {x : α} (h : xs[i]? = some x) : atI xs (i : Int) = some x := atI_nat h
theorem divInt_add2 (a b c : Int) (h : c ≠ 0) : Rat.divInt a c + Rat.divInt b c = Rat.divInt (a + b) c := by
  rw [Rat.divInt_eq_div, Rat.divInt_eq_div, Rat.divInt_eq_div, Rat.intCast_add]
  grind
@[simp] theorem cpow_is (i j : Int) : CPow i j = (0 ≤ j ∧ j ≤ 1000000 ∧ i.natAbs < 2 ^ 64) := rfl
@[simp] theorem atI_4 {α : Type} {x y z u v : α} {xs : List α} : atI (x :: y :: z :: u :: v :: xs) 4 = some v := atI_at (i := 4) rfl
@[simp] theorem atI_5 {α : Type} {x y z u v w : α} {xs : List α} : atI (x :: y :: z :: u :: v :: w :: xs) 5 = some w := atI_at (i := 5) rfl
@[simp] theorem atI_6 {α : Type} {x y z u v w t : α} {xs : List α} : atI (x :: y :: z :: u :: v :: w :: t :: xs) 6 = some t := atI_at (i := 6) rfl
/-- a comprehension over a list written out -/
@[irreducible] noncomputable def cmpA (S : MSig) (tg : Tg) (elt : Ex) (ρ : Env') (items acc : List PV) : M (List PV) := compM (tgM tg).one (fun _ => ret true) (fun ρ' => nox ((ev S elt).e ρ')) ρ items acc
section
variable {S : MSig} {tg : Tg} {elt : Ex} {ρ : Env'}
theorem cmpL_acc (items : List PV) : cmpL S tg .nil elt ρ items = cmpA S tg elt ρ items [] := by
  unfold cmpL cmpA
  rfl
@[simp] theorem cmpA_nil (acc : List PV) : cmpA S tg elt ρ [] acc = ret acc := by
  unfold cmpA
  rfl
@[simp] theorem cmpA_cons (x : PV) (xs acc : List PV) : cmpA S tg elt ρ (x :: xs) acc = @bnd _ _ (cmp1 S tg elt ρ x) ⟨fun y => req (acc.length < sizeLine) (cmpA S tg elt ρ xs (acc ++ [y]))⟩ := by
  have e : cmpA S tg elt ρ (x :: xs) acc = bind ((tgM tg).one x ρ) fun ρ' => bind (nox ((ev S elt).e ρ')) fun y => req (acc.length < sizeLine) (cmpA S tg elt ρ xs (acc ++ [y])) := by
    unfold cmpA
    rfl
  rw [e]
  exact (bind_assoc (m := (tgM tg).one x ρ)).symm
end
@[simp] theorem add_1tpI (x : Int) (xs : List Int) : binM .add (.tup [.int x]) (tpI xs) = req (xs.length + 1 ≤ sizeLine) (ret (tpI (x :: xs))) := by
  simp [tpI, Nat.add_comm]
@[simp] theorem add_tpI1 (x : Int) (xs : List Int) : binM .add (tpI xs) (.tup [.int x]) = req (xs.length + 1 ≤ sizeLine) (ret (tpI (xs ++ [x]))) := by
  simp [tpI]
@[simp] theorem ixN_m1 (n : Nat) : ixN (n + 1) (-1) = some n := by
  unfold ixN
  simp
  omega
theorem cut_ij {α : Type} (xs : List α) (i j : Nat) : cutA xs (some (i : Int)) (some (j : Int)) = (xs.drop i).take (j - i) := by
  unfold cutA
  have e1 : HT.sIx xs.length 0 (some (i : Int)) = min i xs.length := HT.sIx_nat _ _ i
  have e2 : HT.sIx xs.length xs.length (some (j : Int)) = min j xs.length := HT.sIx_nat _ _ j
  rw [e1, e2]
  rcases Nat.le_total i xs.length with h | h
  · rw [Nat.min_eq_left h]
    rcases Nat.le_total j xs.length with h2 | h2
    · rw [Nat.min_eq_left h2]
    · rw [Nat.min_eq_right h2]
      rw [List.take_of_length_le (by simp), List.take_of_length_le (by simp; omega)]
  · rw [Nat.min_eq_right h, List.drop_length, List.drop_of_length_le h]
    simp
theorem cut_io {α : Type} (xs : List α) (i : Nat) : cutA xs (some (i : Int)) none = xs.drop i := by
  unfold cutA
  rw [HT.sIx_nat, HT.sIx_none]
  rcases Nat.le_total i xs.length with h | h
  · rw [Nat.min_eq_left h, List.take_of_length_le (by simp)]
  · rw [Nat.min_eq_right h, List.drop_length, List.drop_of_length_le h]
    simp
theorem cut_oj {α : Type} (xs : List α) (j : Nat) : cutA xs none (some (j : Int)) = xs.take j := by
  unfold cutA
  rw [HT.sIx_nat, HT.sIx_none]
  rcases Nat.le_total j xs.length with h | h
  · rw [Nat.min_eq_left h]
    simp
  · rw [Nat.min_eq_right h]
    simp [List.take_of_length_le h]
/-- .index on ints -/
theorem lix_I {ns : List Int} {m : Int} {j : Nat} (hj : ns[j]? = some m) (hf : ∀ (t : Nat) x, t < j → ns[t]? = some x → x ≠ m) : lixM (ns.map .int) (.int m) = ret (.int (j : Int)) := by
  have e : (ns.map PV.int).findIdx? (fun x => x.eqv (.int m)) = some j := by
    induction ns generalizing j with
    | nil => cases hj
    | cons y ns ih =>
      rw [List.map_cons, List.findIdx?_cons, eqv_int]
      cases j with
      | zero =>
        cases hj
        simp
      | succ j =>
        have h0 := hf 0 y (by omega) rfl
        rw [if_neg (by simpa using h0), ih (j := j) (by simpa using hj) fun t x ht hx => hf (t + 1) x (by omega) (by simpa using hx)]
        rfl
  unfold lixM
  rw [req_of ⟨rfl, by simp⟩, e]
  rfl
/-- the first place where F is greatest -/
def amX (F : Nat → Int) : Nat → Nat
  | 0 => 0
  | k + 1 => if F (amX F k) < F k then k else amX F k
theorem amX_spec (F : Nat → Int) : ∀ k, (k = 0 → amX F k = 0) ∧ (0 < k → amX F k < k) ∧ (∀ t, t < k → F t ≤ F (amX F k)) ∧ ∀ t, t < amX F k → F t < F (amX F k)
  | 0 => ⟨fun _ => rfl, fun h => by omega, fun t h => by omega, fun t h => by simp [amX] at h⟩
  | k + 1 => by
    obtain ⟨h0, h1, h2, h3⟩ := amX_spec F k
    refine ⟨fun h => by omega, ?_, ?_, ?_⟩
    · intro _
      simp only [amX]
      split
      · omega
      · by_cases z : k = 0
        · rw [h0 z]; omega
        · have := h1 (by omega); omega
    · intro t ht
      simp only [amX]
      split
      · by_cases z : t = k
        · rw [z]; omega
        · have := h2 t (by omega); omega
      · by_cases z : t = k
        · rw [z]; omega
        · exact h2 t (by omega)
    · intro t
      simp only [amX]
      split
      · intro ht
        have := h2 t ht
        omega
      · exact h3 t
theorem lix_def (xs : List PV) (q : PV) : lixM xs q = req (q.flat = true ∧ xs.all PV.flat = true) (@bnd _ _ (ofO (xs.findIdx? fun x => x.eqv q)) ⟨fun j => ret (.int (j : Nat))⟩) := rfl
end Rk

set_option maxHeartbeats 4000000
namespace Rk
open PySem PySem.Spec PyProof.Rows L2
section
variable {n : Nms} {S : Sig} {C : Cfg} {P : Program} {w : World} {mg : Str → Option Value} {base : Heap} {k : Nat} {cn : Cns} {f : Addr} {x qual : Str} {st : Stmt} {fd : FuncData} {ar : List Str}
/-- a hand whose list of cells is made in the display -/
def chkH2 (n : Nms) (cn : Cns) (sx : Sx) (x0 as : Ex) (sc : Scope) : List Stmt → Bool := fun sts => match sts.getLast? with
  | some (.Return (some (.List (e0 :: es) _)) _) => (chkS n cn sx).blk sc sts.dropLast && (chk n x0).e sc e0 && (chk n as).a sc es
  | _ => false
theorem hand2_ok {Nm : List Str} {sx : Sx} {x0 as : Ex} (F : L2.Fun C.K x qual st f fd) (Sc : FnScope Nm ar (defScope st)) (h1 : ar.length = 1) (L : Lib ⟨Nm, n.fn, n.cn, n.wn, n.cl, f0⟩ S C P w mg base k) (R : Crs cn C mg) (hk : chkH2 ⟨Nm, n.fn, n.cn, n.wn, n.cl, f0⟩ cn sx x0 as (defScope st) (defBody st) = true)
    (mk : List Int → List Int → Prop) (hm : ∀ cs zs, mk cs zs → zs.length < sizeLine) (hHK : ∀ (H : Hp) (a c : Addr) cs zs, mk cs zs → H a = some (.lst (.ref c :: zs.map V.int)) → H c = some (.lst (cs.map V.int)) → a ≠ c → C.HK H a c)
    (hv : ∀ ns, wpS S sx (entry Nm.length [.scr ns]) ⟨fun ρ => (den S x0).s true ρ (fun s => ∃ cs : List Int, s = .ol (cs.map PV.int) ∧ (den S as).a ρ (fun ps => ∃ zs : List Int, ps = zs.map PV.int ∧ mk cs zs) (fun _ => False)) (fun _ => False), fun _ => False, fun _ => False, fun _ => False, fun _ => False⟩) :
    FnG P w C.K mg base (k + 1) f fd ar (spOf C handSpec) := by
  have hpl : ar.length ≤ Nm.length := by
    have z := congrArg List.length Sc.pre
    rw [List.length_take] at z
    omega
  refine fnG_of F Sc (fun vs H Q E h => ?_) fun cdv A outer s H vs Q E room gd _ h => ?_
  · obtain ⟨g, ps, _, _, r, ns, e, _⟩ := h
    rw [← r.len, e, h1]
    rfl
  · obtain ⟨g, ps, cold, w0, r, ns, e, h⟩ := h
    subst e
    have A1 := atS_of (H := H) (qual := qual) (f := f) (cdv := cdv) (outer := outer) (s := s) (E := E) Sc.kind Sc.nd L R room gd
    unfold chkH2 at hk
    split at hk
    · rename_i e0 es pos ppos hlast
      simp only [Bool.and_eq_true, decide_eq_true_eq] at hk
      obtain ⟨⟨k1, k2⟩, k5⟩ := hk
      have hb : defBody st = (defBody st).dropLast ++ [.Return (some (.List (e0 :: es) pos)) ppos] := by
        obtain ⟨z, hz⟩ := List.getLast?_eq_some_iff.mp hlast
        rw [hz]
        simp
      rw [hb]
      have i0 := snd (g0 := g) (H0 := H) x0 _ _ A1.toAt (tie_f0 rfl cold)
      have ia := (snd (g0 := g) (H0 := H) as _ _ A1.toAt (tie_f0 rfl cold)).a es k5
      have hret := pss_one (ps_ret (pos := ppos) (pe_lst (pos := pos) (pa_cons (i0.s true e0 k2) ia.2 (starEach_cons (i0.st e0 k2).1))))
      refine ⟨_, sns_more (g0 := g) (H0 := H) A1 ⟨tie_f0 rfl cold, fun _ z => (by cases z)⟩ hret sx _ k1, g, _, rel_start (by rw [h1] at hpl; exact hpl) w0 r, wpS_mono S sx _ _ _ ?_ (hv ns)⟩
      refine ⟨fun ρ z g1 H1 σ1 l1 rel => ?_, fun _ z => z.elim, fun _ z => z.elim, fun _ z => z.elim, fun _ z => z.elim⟩
      refine ⟨g1, ρ, rel, (den_mono S x0).s (fun sl hsl => ?_) (fun _ z => z.elim) z⟩
      intro g2 H2 v s2 nk
      obtain ⟨cs, rfl, z⟩ := hsl
      have rel2 := rel.go s2
      obtain ⟨c, vs, rfl, q1, q2, q3, q4, q5⟩ := nk
      refine tA_in (den_mono S as) rel2 z (fun ps g3 H3 us s3 rel3 rps hz => ?_) fun x z => z.elim
      obtain ⟨zs, e3, hmk⟩ := hz
      subst e3
      have ei := RPs.onInts rps
      subst ei
      have ec := RPs.onInts q2
      subst ec
      refine ⟨by simpa using Nat.succ_le_of_lt (hm _ _ hmk), fun a na => ?_⟩
      have p1 := s3.frame _ _ q1 (fun ps z => by cases z) q5
      have hac : a ≠ c := fun z => by
        rw [z, p1] at na
        cases na
      have s4 := (rel3.step).trans (Step.lay (o := .lst (.ref c :: zs.map V.int)) rel3.w na)
      have gc : g3.G c = none := by
        cases hz : g3.G c with
        | none => rfl
        | some o => exact ((s3.new c o hz q3).no q1 (fun ps z => by cases z)).elim
      have s5 := s4.tokN (hHK _ a c cs zs hmk upd_same (by rw [upd_ne (Ne.symm hac)]; exact p1) hac) (rel3.w.none_of na) gc (rel3.step.dom _ (.of na)) (rel.step.dom _ q4) (rel3.w.free_new na) (Free.step s3 q1 (fun ps z => by cases z) q5)
      exact h a c _ _ (.ref a) s5 ⟨rfl, List.mem_cons_self⟩
    · cases hk
end
end Rk

set_option maxHeartbeats 4000000
namespace Rk
open PySem PySem.Spec PyProof.Rows L2 M
section
variable {n : Nms} {cn : Cns} {S : MSig} {C : Cfg} {P : Program} {w : World} {mg : Str → Option Value} {base : Heap} {k : Nat} {f : Addr} {x qual : Str} {st : Stmt} {fd : FuncData} {ar : List Str}
def HandP2 (S : MSig) (x0 as : Ex) (mk : List Int → List Int → Prop) (o : Oc) : Prop := ∃ (ρ : Env') (cs zs : List Int), o = .nx ρ ∧ (ev S x0).s true ρ = ret (.ol (cs.map PV.int)) ∧ (ev S as).a ρ = ret (zs.map PV.int) ∧ mk cs zs
theorem handM2_ok {Nm : List Str} {sx : Sx} {x0 as : Ex} (F : L2.Fun C.K x qual st f fd) (Sc : FnScope Nm ar (defScope st)) (h1 : ar.length = 1) (L : Lib ⟨Nm, n.fn, n.cn, n.wn, n.cl, f0⟩ S.sig C P w mg base k) (R : Crs cn C mg) (hk : chkH2 ⟨Nm, n.fn, n.cn, n.wn, n.cl, f0⟩ cn sx x0 as (defScope st) (defBody st) = true)
    (mk : List Int → List Int → Prop) (hm : ∀ cs zs, mk cs zs → zs.length < sizeLine) (hHK : ∀ (H : Hp) (a c : Addr) (cs zs : List Int), mk cs zs → H a = some (.lst (.ref c :: zs.map V.int)) → H c = some (.lst (cs.map V.int)) → a ≠ c → C.HK H a c)
    (hv : ∀ ns, (evS S sx (entry Nm.length [.scr ns])).wp (HandP2 S x0 as mk) fun _ => False) :
    FnG P w C.K mg base (k + 1) f fd ar (spOf C handF.spec) := by
  refine (hand2_ok F Sc h1 L R hk mk hm hHK fun ns => ?_).weak fun as Q E h => handF_ok h
  refine evS_ok S sx _ _ (wp_mono (fun o ho => ?_) (fun _ z => z) _ (hv ns))
  obtain ⟨ρ, cs, zs, rfl, e1, e2, e3⟩ := ho
  refine (ev_ok S x0).s _ _ _ _ ?_
  rw [e1]
  refine ⟨cs, rfl, (ev_ok S as).a _ _ _ ?_⟩
  rw [e2]
  exact ⟨zs, rfl, e3⟩
end
end Rk

set_option maxHeartbeats 4000000
namespace Lk20
open PySem PySem.Spec PyProof.Rows L2 Rk
def top (i : Nat) : Stmt := PySem.Challenge.pw_riskhouse_k20_whole_curves_of_survival.main.body.getD i (.Pass ⟨0, 0, 0, 0⟩)
def fnL : List Str := [Str.ofString "is_integer", Str.ofString "is_within", Str.ofString "is_tuple_of", Str.ofString "common_part", Str.ofString "raw_made", Str.ofString "raw_times", Str.ofString "raw_compared", Str.ofString "is_sight", Str.ofString "check_seen", Str.ofString "check_seen_time", Str.ofString "end_times", Str.ofString "raw_at_risk", Str.ofString "raw_ends", Str.ofString "raw_curve", Str.ofString "curve", Str.ofString "raw_survives", Str.ofString "survives", Str.ofString "at_risk", Str.ofString "ends_at", Str.ofString "half_time", Str.ofString "without_lost", Str.ofString "_law_tape", Str.ofString "_law_pick", Str.ofString "_law_any", Str.ofString "_law_mixed", Str.ofString "_law_shared", Str.ofString "_law_over", Str.ofString "_law_times", Str.ofString "_law_seen", Str.ofString "_law_risk", Str.ofString "_law_ends", Str.ofString "_law_times_of", Str.ofString "_law_curve", Str.ofString "_law_no_seen", Str.ofString "_law_word", Str.ofString "_law_is_right", Str.ofString "_law_word_of", Str.ofString "_law_word_by", Str.ofString "_law_is_refused", Str.ofString "law"]
def cnL : List Str := [Str.ofString "WHOLE", Str.ofString "MOST_SEEN", Str.ofString "MOST_TIME", Str.ofString "HALF"]
def fnU (k : Nat) : Nat → Option Str := fnUp fnL k
def cnN : Nat → Option Str := fun i => cnL[i]?
def clL : List Str := [Str.ofString "RiskError", Str.ofString "NoSeen", Str.ofString "NoTime"]
def clN : Nat → Option Str := fun i => clL[i]?
def wlL : List Str := [Str.ofString "_law_word"]
def csN : Cns := ⟨clN⟩
def cnV : Nat → PV := fun i => match i with
  | 0 => .tup [.int 1, .int 1]
  | 1 => .int 60
  | 2 => .int 1000
  | 3 => .tup [.int 1, .int 2]
  | _ => .non
@[simp] theorem cn_WHOLE : cnV 0 = fr 1 := (rfl)
@[simp] theorem cn_MOST_SEEN : cnV 1 = .int 60 := (rfl)
@[simp] theorem cn_MOST_TIME : cnV 2 = .int 1000 := (rfl)
@[simp] theorem cn_HALF : cnV 3 = .tup [.int 1, .int 2] := (rfl)
noncomputable def S_is_integer : MSig := ⟨fun _ => drawF, cnV, fun _ => ⟨id⟩, sb0, M.bad⟩
theorem S_is_integer_cn : S_is_integer.cn = cnV := rfl
theorem S_is_integer_sb : S_is_integer.sb = sb0 := rfl
/-- is_integer(thing) -/
def nm_is_integer : List Str := [Str.ofString "thing"]
def ar_is_integer : List Str := [Str.ofString "thing"]
def sx_is_integer : Sx := (.seq (.ret (.and (.isi (.var 0) [.int]) (.one (.not (.isi (.var 0) [.bool]))))) .nil)
theorem sc_is_integer : FnScope nm_is_integer ar_is_integer (defScope (top 1)) := ⟨rfl, rfl, rfl, by decide +kernel, rfl, by decide +kernel, by decide +kernel⟩
theorem ck_is_integer : (chkS ⟨nm_is_integer, fnU 0, cnN, fnUp wlL 0, clN, flm false⟩ csN sx_is_integer).blk (defScope (top 1)) (defBody (top 1)) = true := by decide +kernel
noncomputable def P_is_integer : MF := mfOf S_is_integer nm_is_integer.length ar_is_integer.length sx_is_integer
@[irreducible] noncomputable def F_is_integer : List PV → M PV := P_is_integer.f
noncomputable def S_is_within : MSig := S_is_integer.add 0 P_is_integer
@[simp] theorem n_is_integer : S_is_integer.cn = cnV := S_is_integer_cn
theorem u_is_integer (a0 : PV) : F_is_integer [a0] = @bnd _ _ (evS S_is_integer (.seq (.ret (.and (.isi (.var 0) [.int]) (.one (.not (.isi (.var 0) [.bool]))))) .nil) [.fz a0]) ⟨fin⟩ := by
  unfold F_is_integer
  exact mf_u (S := S_is_integer) (sx := sx_is_integer) rfl rfl
theorem S_is_within_cn : S_is_within.cn = cnV := (add_cn S_is_integer 0 P_is_integer).trans S_is_integer_cn
theorem S_is_within_sb : S_is_within.sb = sb0 := (add_sb S_is_integer 0 P_is_integer).trans S_is_integer_sb
/-- is_within(thing, least, most) -/
def nm_is_within : List Str := [Str.ofString "thing", Str.ofString "least", Str.ofString "most"]
def ar_is_within : List Str := [Str.ofString "thing", Str.ofString "least", Str.ofString "most"]
def sx_is_within : Sx := (.seq (.ret (.and (.call 0 (.cons (.var 0) .nil)) (.one (.cmp2 .le .le (.var 1) (.var 0) (.var 2))))) .nil)
theorem sc_is_within : FnScope nm_is_within ar_is_within (defScope (top 2)) := ⟨rfl, rfl, rfl, by decide +kernel, rfl, by decide +kernel, by decide +kernel⟩
theorem ck_is_within : (chkS ⟨nm_is_within, fnU 1, cnN, fnUp wlL 0, clN, flm false⟩ csN sx_is_within).blk (defScope (top 2)) (defBody (top 2)) = true := by decide +kernel
noncomputable def P_is_within : MF := mfOf S_is_within nm_is_within.length ar_is_within.length sx_is_within
@[irreducible] noncomputable def F_is_within : List PV → M PV := P_is_within.f
noncomputable def S_is_tuple_of : MSig := S_is_within.add 1 P_is_within
@[simp] theorem n_is_within : S_is_within.cn = cnV := S_is_within_cn
@[simp] theorem q_is_within_0 : (S_is_within.F 0).f = F_is_integer := by unfold F_is_integer; rfl
theorem u_is_within (a0 a1 a2 : PV) : F_is_within [a0, a1, a2] = @bnd _ _ (evS S_is_within (.seq (.ret (.and (.call 0 (.cons (.var 0) .nil)) (.one (.cmp2 .le .le (.var 1) (.var 0) (.var 2))))) .nil) [.fz a0, .fz a1, .fz a2]) ⟨fin⟩ := by
  unfold F_is_within
  exact mf_u (S := S_is_within) (sx := sx_is_within) rfl rfl
theorem S_is_tuple_of_cn : S_is_tuple_of.cn = cnV := (add_cn S_is_within 1 P_is_within).trans S_is_within_cn
theorem S_is_tuple_of_sb : S_is_tuple_of.sb = sb0 := (add_sb S_is_within 1 P_is_within).trans S_is_within_sb
/-- is_tuple_of(thing, size) -/
def nm_is_tuple_of : List Str := [Str.ofString "thing", Str.ofString "size"]
def ar_is_tuple_of : List Str := [Str.ofString "thing", Str.ofString "size"]
def sx_is_tuple_of : Sx := (.seq (.ret (.and (.isi (.var 0) [.tuple]) (.one (.cmp .eq (.blt .len (.cons (.var 0) .nil)) (.var 1))))) .nil)
theorem sc_is_tuple_of : FnScope nm_is_tuple_of ar_is_tuple_of (defScope (top 3)) := ⟨rfl, rfl, rfl, by decide +kernel, rfl, by decide +kernel, by decide +kernel⟩
theorem ck_is_tuple_of : (chkS ⟨nm_is_tuple_of, fnU 2, cnN, fnUp wlL 0, clN, flm false⟩ csN sx_is_tuple_of).blk (defScope (top 3)) (defBody (top 3)) = true := by decide +kernel
noncomputable def P_is_tuple_of : MF := mfOf S_is_tuple_of nm_is_tuple_of.length ar_is_tuple_of.length sx_is_tuple_of
@[irreducible] noncomputable def F_is_tuple_of : List PV → M PV := P_is_tuple_of.f
noncomputable def S_common_part : MSig := S_is_tuple_of.add 2 P_is_tuple_of
@[simp] theorem n_is_tuple_of : S_is_tuple_of.cn = cnV := S_is_tuple_of_cn
theorem u_is_tuple_of (a0 a1 : PV) : F_is_tuple_of [a0, a1] = @bnd _ _ (evS S_is_tuple_of (.seq (.ret (.and (.isi (.var 0) [.tuple]) (.one (.cmp .eq (.blt .len (.cons (.var 0) .nil)) (.var 1))))) .nil) [.fz a0, .fz a1]) ⟨fin⟩ := by
  unfold F_is_tuple_of
  exact mf_u (S := S_is_tuple_of) (sx := sx_is_tuple_of) rfl rfl
theorem S_common_part_cn : S_common_part.cn = cnV := (add_cn S_is_tuple_of 2 P_is_tuple_of).trans S_is_tuple_of_cn
theorem S_common_part_sb : S_common_part.sb = sb0 := (add_sb S_is_tuple_of 2 P_is_tuple_of).trans S_is_tuple_of_sb
/-- common_part(one, other) -/
def nm_common_part : List Str := [Str.ofString "one", Str.ofString "other"]
def ar_common_part : List Str := [Str.ofString "one", Str.ofString "other"]
def bd_common_part_0 : Sx := (.seq (.par false 0 (.var 1) false 1 (.bin .sub (.var 0) (.bin .mul (.var 1) (.bin .fdv (.var 0) (.var 1))))) .nil)
def sx_common_part : Sx := (.seq (.par false 0 (.blt .abs (.cons (.var 0) .nil)) false 1 (.blt .abs (.cons (.var 1) .nil))) (.seq (.whl (.cmp .ne (.var 1) (.int 0)) bd_common_part_0) (.seq (.ret (.var 0)) .nil)))
theorem sc_common_part : FnScope nm_common_part ar_common_part (defScope (top 10)) := ⟨rfl, rfl, rfl, by decide +kernel, rfl, by decide +kernel, by decide +kernel⟩
theorem ck_common_part : (chkS ⟨nm_common_part, fnU 3, cnN, fnUp wlL 0, clN, flm false⟩ csN sx_common_part).blk (defScope (top 10)) (defBody (top 10)) = true := by decide +kernel
noncomputable def P_common_part : MF := mfOf S_common_part nm_common_part.length ar_common_part.length sx_common_part
@[irreducible] noncomputable def F_common_part : List PV → M PV := P_common_part.f
noncomputable def S_raw_made : MSig := S_common_part.add 3 P_common_part
@[simp] theorem n_common_part : S_common_part.cn = cnV := S_common_part_cn
theorem b_common_part_0 (ρ : Env') : evS S_common_part bd_common_part_0 ρ = evS S_common_part (.seq (.par false 0 (.var 1) false 1 (.bin .sub (.var 0) (.bin .mul (.var 1) (.bin .fdv (.var 0) (.var 1))))) .nil) ρ := (rfl)
theorem u_common_part (a0 a1 : PV) : F_common_part [a0, a1] = @bnd _ _ (evS S_common_part (.seq (.par false 0 (.blt .abs (.cons (.var 0) .nil)) false 1 (.blt .abs (.cons (.var 1) .nil))) (.seq (.whl (.cmp .ne (.var 1) (.int 0)) bd_common_part_0) (.seq (.ret (.var 0)) .nil))) [.fz a0, .fz a1]) ⟨fin⟩ := by
  unfold F_common_part
  exact mf_u (S := S_common_part) (sx := sx_common_part) rfl rfl
theorem S_raw_made_cn : S_raw_made.cn = cnV := (add_cn S_common_part 3 P_common_part).trans S_common_part_cn
theorem S_raw_made_sb : S_raw_made.sb = sb0 := (add_sb S_common_part 3 P_common_part).trans S_common_part_sb
/-- raw_made(top, bottom) -/
def nm_raw_made : List Str := [Str.ofString "top", Str.ofString "bottom", Str.ofString "part"]
def ar_raw_made : List Str := [Str.ofString "top", Str.ofString "bottom"]
def sx_raw_made : Sx := (.seq (.set false 2 (.call 3 (.cons (.var 0) (.cons (.var 1) .nil)))) (.seq (.set false 2 (.ite (.cmp .gt (.var 1) (.int 0)) (.var 2) (.neg (.var 2)))) (.seq (.ret (.tup (.cons (.bin .fdv (.var 0) (.var 2)) (.cons (.bin .fdv (.var 1) (.var 2)) .nil)))) .nil)))
theorem sc_raw_made : FnScope nm_raw_made ar_raw_made (defScope (top 11)) := ⟨rfl, rfl, rfl, by decide +kernel, rfl, by decide +kernel, by decide +kernel⟩
theorem ck_raw_made : (chkS ⟨nm_raw_made, fnU 4, cnN, fnUp wlL 0, clN, flm false⟩ csN sx_raw_made).blk (defScope (top 11)) (defBody (top 11)) = true := by decide +kernel
noncomputable def P_raw_made : MF := mfOf S_raw_made nm_raw_made.length ar_raw_made.length sx_raw_made
@[irreducible] noncomputable def F_raw_made : List PV → M PV := P_raw_made.f
noncomputable def S_raw_times : MSig := S_raw_made.add 4 P_raw_made
@[simp] theorem n_raw_made : S_raw_made.cn = cnV := S_raw_made_cn
@[simp] theorem q_raw_made_3 : (S_raw_made.F 3).f = F_common_part := by unfold F_common_part; rfl
theorem u_raw_made (a0 a1 : PV) : F_raw_made [a0, a1] = @bnd _ _ (evS S_raw_made (.seq (.set false 2 (.call 3 (.cons (.var 0) (.cons (.var 1) .nil)))) (.seq (.set false 2 (.ite (.cmp .gt (.var 1) (.int 0)) (.var 2) (.neg (.var 2)))) (.seq (.ret (.tup (.cons (.bin .fdv (.var 0) (.var 2)) (.cons (.bin .fdv (.var 1) (.var 2)) .nil)))) .nil))) [.fz a0, .fz a1, .un]) ⟨fin⟩ := by
  unfold F_raw_made
  exact mf_u (S := S_raw_made) (sx := sx_raw_made) rfl rfl
theorem S_raw_times_cn : S_raw_times.cn = cnV := (add_cn S_raw_made 4 P_raw_made).trans S_raw_made_cn
theorem S_raw_times_sb : S_raw_times.sb = sb0 := (add_sb S_raw_made 4 P_raw_made).trans S_raw_made_sb
/-- raw_times(one, other) -/
def nm_raw_times : List Str := [Str.ofString "one", Str.ofString "other"]
def ar_raw_times : List Str := [Str.ofString "one", Str.ofString "other"]
def sx_raw_times : Sx := (.seq (.ret (.call 4 (.cons (.bin .mul (.idx (.var 0) (.int 0)) (.idx (.var 1) (.int 0))) (.cons (.bin .mul (.idx (.var 0) (.int 1)) (.idx (.var 1) (.int 1))) .nil)))) .nil)
theorem sc_raw_times : FnScope nm_raw_times ar_raw_times (defScope (top 12)) := ⟨rfl, rfl, rfl, by decide +kernel, rfl, by decide +kernel, by decide +kernel⟩
theorem ck_raw_times : (chkS ⟨nm_raw_times, fnU 5, cnN, fnUp wlL 0, clN, flm false⟩ csN sx_raw_times).blk (defScope (top 12)) (defBody (top 12)) = true := by decide +kernel
noncomputable def P_raw_times : MF := mfOf S_raw_times nm_raw_times.length ar_raw_times.length sx_raw_times
@[irreducible] noncomputable def F_raw_times : List PV → M PV := P_raw_times.f
noncomputable def S_raw_compared : MSig := S_raw_times.add 5 P_raw_times
@[simp] theorem n_raw_times : S_raw_times.cn = cnV := S_raw_times_cn
@[simp] theorem q_raw_times_4 : (S_raw_times.F 4).f = F_raw_made := by unfold F_raw_made; rfl
theorem u_raw_times (a0 a1 : PV) : F_raw_times [a0, a1] = @bnd _ _ (evS S_raw_times (.seq (.ret (.call 4 (.cons (.bin .mul (.idx (.var 0) (.int 0)) (.idx (.var 1) (.int 0))) (.cons (.bin .mul (.idx (.var 0) (.int 1)) (.idx (.var 1) (.int 1))) .nil)))) .nil) [.fz a0, .fz a1]) ⟨fin⟩ := by
  unfold F_raw_times
  exact mf_u (S := S_raw_times) (sx := sx_raw_times) rfl rfl
theorem S_raw_compared_cn : S_raw_compared.cn = cnV := (add_cn S_raw_times 5 P_raw_times).trans S_raw_times_cn
theorem S_raw_compared_sb : S_raw_compared.sb = sb0 := (add_sb S_raw_times 5 P_raw_times).trans S_raw_times_sb
/-- raw_compared(one, other) -/
def nm_raw_compared : List Str := [Str.ofString "one", Str.ofString "other", Str.ofString "gap"]
def ar_raw_compared : List Str := [Str.ofString "one", Str.ofString "other"]
def sx_raw_compared : Sx := (.seq (.set false 2 (.bin .sub (.bin .mul (.idx (.var 0) (.int 0)) (.idx (.var 1) (.int 1))) (.bin .mul (.idx (.var 1) (.int 0)) (.idx (.var 0) (.int 1))))) (.seq (.ret (.bin .sub (.blt .int (.cons (.cmp .gt (.var 2) (.int 0)) .nil)) (.blt .int (.cons (.cmp .lt (.var 2) (.int 0)) .nil)))) .nil))
theorem sc_raw_compared : FnScope nm_raw_compared ar_raw_compared (defScope (top 13)) := ⟨rfl, rfl, rfl, by decide +kernel, rfl, by decide +kernel, by decide +kernel⟩
theorem ck_raw_compared : (chkS ⟨nm_raw_compared, fnU 6, cnN, fnUp wlL 0, clN, flm false⟩ csN sx_raw_compared).blk (defScope (top 13)) (defBody (top 13)) = true := by decide +kernel
noncomputable def P_raw_compared : MF := mfOf S_raw_compared nm_raw_compared.length ar_raw_compared.length sx_raw_compared
@[irreducible] noncomputable def F_raw_compared : List PV → M PV := P_raw_compared.f
noncomputable def S_is_sight : MSig := S_raw_compared.add 6 P_raw_compared
@[simp] theorem n_raw_compared : S_raw_compared.cn = cnV := S_raw_compared_cn
theorem u_raw_compared (a0 a1 : PV) : F_raw_compared [a0, a1] = @bnd _ _ (evS S_raw_compared (.seq (.set false 2 (.bin .sub (.bin .mul (.idx (.var 0) (.int 0)) (.idx (.var 1) (.int 1))) (.bin .mul (.idx (.var 1) (.int 0)) (.idx (.var 0) (.int 1))))) (.seq (.ret (.bin .sub (.blt .int (.cons (.cmp .gt (.var 2) (.int 0)) .nil)) (.blt .int (.cons (.cmp .lt (.var 2) (.int 0)) .nil)))) .nil)) [.fz a0, .fz a1, .un]) ⟨fin⟩ := by
  unfold F_raw_compared
  exact mf_u (S := S_raw_compared) (sx := sx_raw_compared) rfl rfl
theorem S_is_sight_cn : S_is_sight.cn = cnV := (add_cn S_raw_compared 6 P_raw_compared).trans S_raw_compared_cn
theorem S_is_sight_sb : S_is_sight.sb = sb0 := (add_sb S_raw_compared 6 P_raw_compared).trans S_raw_compared_sb
/-- is_sight(thing) -/
def nm_is_sight : List Str := [Str.ofString "thing"]
def ar_is_sight : List Str := [Str.ofString "thing"]
def sx_is_sight : Sx := (.seq (.ret (.and (.call 2 (.cons (.var 0) (.cons (.int 2) .nil))) (.and (.call 1 (.cons (.idx (.var 0) (.int 0)) (.cons (.int 0) (.cons (.con 2) .nil)))) (.one (.isi (.idx (.var 0) (.int 1)) [.bool]))))) .nil)
theorem sc_is_sight : FnScope nm_is_sight ar_is_sight (defScope (top 18)) := ⟨rfl, rfl, rfl, by decide +kernel, rfl, by decide +kernel, by decide +kernel⟩
theorem ck_is_sight : (chkS ⟨nm_is_sight, fnU 7, cnN, fnUp wlL 0, clN, flm false⟩ csN sx_is_sight).blk (defScope (top 18)) (defBody (top 18)) = true := by decide +kernel
noncomputable def P_is_sight : MF := mfOf S_is_sight nm_is_sight.length ar_is_sight.length sx_is_sight
@[irreducible] noncomputable def F_is_sight : List PV → M PV := P_is_sight.f
noncomputable def S_check_seen : MSig := S_is_sight.add 7 P_is_sight
@[simp] theorem n_is_sight : S_is_sight.cn = cnV := S_is_sight_cn
@[simp] theorem q_is_sight_1 : (S_is_sight.F 1).f = F_is_within := by unfold F_is_within; rfl
@[simp] theorem q_is_sight_2 : (S_is_sight.F 2).f = F_is_tuple_of := by unfold F_is_tuple_of; rfl
theorem u_is_sight (a0 : PV) : F_is_sight [a0] = @bnd _ _ (evS S_is_sight (.seq (.ret (.and (.call 2 (.cons (.var 0) (.cons (.int 2) .nil))) (.and (.call 1 (.cons (.idx (.var 0) (.int 0)) (.cons (.int 0) (.cons (.con 2) .nil)))) (.one (.isi (.idx (.var 0) (.int 1)) [.bool]))))) .nil) [.fz a0]) ⟨fin⟩ := by
  unfold F_is_sight
  exact mf_u (S := S_is_sight) (sx := sx_is_sight) rfl rfl
theorem S_check_seen_cn : S_check_seen.cn = cnV := (add_cn S_is_sight 7 P_is_sight).trans S_is_sight_cn
theorem S_check_seen_sb : S_check_seen.sb = sb0 := (add_sb S_is_sight 7 P_is_sight).trans S_is_sight_sb
/-- check_seen(seen) -/
def nm_check_seen : List Str := [Str.ofString "seen", Str.ofString "one"]
def ar_check_seen : List Str := [Str.ofString "seen"]
def sx_check_seen : Sx := (.seq (.ite (.or (.not (.isi (.var 0) [.tuple])) (.or (.not (.cmp2 .le .le (.int 1) (.blt .len (.cons (.var 0) .nil)) (.con 1))) (.one (.not (.blt .all (.cons (.comp (.nm 1) (.var 0) .nil (.call 7 (.cons (.var 1) .nil)) [1]) .nil)))))) (.seq (.rse 1) .nil) .nil) .nil)
theorem sc_check_seen : FnScope nm_check_seen ar_check_seen (defScope (top 19)) := ⟨rfl, rfl, rfl, by decide +kernel, rfl, by decide +kernel, by decide +kernel⟩
theorem ck_check_seen : (chkS ⟨nm_check_seen, fnU 8, cnN, fnUp wlL 0, clN, flm false⟩ csN sx_check_seen).blk (defScope (top 19)) (defBody (top 19)) = true := by decide +kernel
noncomputable def P_check_seen : MF := mfOf S_check_seen nm_check_seen.length ar_check_seen.length sx_check_seen
@[irreducible] noncomputable def F_check_seen : List PV → M PV := P_check_seen.f
noncomputable def S_check_seen_time : MSig := S_check_seen.add 8 P_check_seen
@[simp] theorem n_check_seen : S_check_seen.cn = cnV := S_check_seen_cn
@[simp] theorem q_check_seen_7 : (S_check_seen.F 7).f = F_is_sight := by unfold F_is_sight; rfl
theorem u_check_seen (a0 : PV) : F_check_seen [a0] = @bnd _ _ (evS S_check_seen (.seq (.ite (.or (.not (.isi (.var 0) [.tuple])) (.or (.not (.cmp2 .le .le (.int 1) (.blt .len (.cons (.var 0) .nil)) (.con 1))) (.one (.not (.blt .all (.cons (.comp (.nm 1) (.var 0) .nil (.call 7 (.cons (.var 1) .nil)) [1]) .nil)))))) (.seq (.rse 1) .nil) .nil) .nil) [.fz a0, .un]) ⟨fin⟩ := by
  unfold F_check_seen
  exact mf_u (S := S_check_seen) (sx := sx_check_seen) rfl rfl
theorem S_check_seen_time_cn : S_check_seen_time.cn = cnV := (add_cn S_check_seen 8 P_check_seen).trans S_check_seen_cn
theorem S_check_seen_time_sb : S_check_seen_time.sb = sb0 := (add_sb S_check_seen 8 P_check_seen).trans S_check_seen_sb
/-- check_seen_time(seen, time) -/
def nm_check_seen_time : List Str := [Str.ofString "seen", Str.ofString "time"]
def ar_check_seen_time : List Str := [Str.ofString "seen", Str.ofString "time"]
def sx_check_seen_time : Sx := (.seq (.exp (.call 8 (.cons (.var 0) .nil))) (.seq (.ite (.not (.call 1 (.cons (.var 1) (.cons (.int 0) (.cons (.con 2) .nil))))) (.seq (.rse 2) .nil) .nil) .nil))
theorem sc_check_seen_time : FnScope nm_check_seen_time ar_check_seen_time (defScope (top 20)) := ⟨rfl, rfl, rfl, by decide +kernel, rfl, by decide +kernel, by decide +kernel⟩
theorem ck_check_seen_time : (chkS ⟨nm_check_seen_time, fnU 9, cnN, fnUp wlL 0, clN, flm false⟩ csN sx_check_seen_time).blk (defScope (top 20)) (defBody (top 20)) = true := by decide +kernel
noncomputable def P_check_seen_time : MF := mfOf S_check_seen_time nm_check_seen_time.length ar_check_seen_time.length sx_check_seen_time
@[irreducible] noncomputable def F_check_seen_time : List PV → M PV := P_check_seen_time.f
noncomputable def S_end_times : MSig := S_check_seen_time.add 9 P_check_seen_time
@[simp] theorem n_check_seen_time : S_check_seen_time.cn = cnV := S_check_seen_time_cn
@[simp] theorem q_check_seen_time_1 : (S_check_seen_time.F 1).f = F_is_within := by unfold F_is_within; rfl
@[simp] theorem q_check_seen_time_8 : (S_check_seen_time.F 8).f = F_check_seen := by unfold F_check_seen; rfl
theorem u_check_seen_time (a0 a1 : PV) : F_check_seen_time [a0, a1] = @bnd _ _ (evS S_check_seen_time (.seq (.exp (.call 8 (.cons (.var 0) .nil))) (.seq (.ite (.not (.call 1 (.cons (.var 1) (.cons (.int 0) (.cons (.con 2) .nil))))) (.seq (.rse 2) .nil) .nil) .nil)) [.fz a0, .fz a1]) ⟨fin⟩ := by
  unfold F_check_seen_time
  exact mf_u (S := S_check_seen_time) (sx := sx_check_seen_time) rfl rfl
theorem S_end_times_cn : S_end_times.cn = cnV := (add_cn S_check_seen_time 9 P_check_seen_time).trans S_check_seen_time_cn
theorem S_end_times_sb : S_end_times.sb = sb0 := (add_sb S_check_seen_time 9 P_check_seen_time).trans S_check_seen_time_sb
/-- end_times(seen) -/
def nm_end_times : List Str := [Str.ofString "seen", Str.ofString "time", Str.ofString "is_end"]
def ar_end_times : List Str := [Str.ofString "seen"]
def sx_end_times : Sx := (.seq (.ret (.blt .sorted (.cons (.dco (.tp (.cons (.nm 1) (.cons (.nm 2) .nil))) (.var 0) (.var 2) (.var 1) (.tt true) [1, 2]) .nil))) .nil)
theorem sc_end_times : FnScope nm_end_times ar_end_times (defScope (top 21)) := ⟨rfl, rfl, rfl, by decide +kernel, rfl, by decide +kernel, by decide +kernel⟩
theorem ck_end_times : (chkS ⟨nm_end_times, fnU 10, cnN, fnUp wlL 0, clN, flm false⟩ csN sx_end_times).blk (defScope (top 21)) (defBody (top 21)) = true := by decide +kernel
noncomputable def P_end_times : MF := mfOf S_end_times nm_end_times.length ar_end_times.length sx_end_times
@[irreducible] noncomputable def F_end_times : List PV → M PV := P_end_times.f
noncomputable def S_raw_at_risk : MSig := S_end_times.add 10 P_end_times
@[simp] theorem n_end_times : S_end_times.cn = cnV := S_end_times_cn
theorem u_end_times (a0 : PV) : F_end_times [a0] = @bnd _ _ (evS S_end_times (.seq (.ret (.blt .sorted (.cons (.dco (.tp (.cons (.nm 1) (.cons (.nm 2) .nil))) (.var 0) (.var 2) (.var 1) (.tt true) [1, 2]) .nil))) .nil) [.fz a0, .un, .un]) ⟨fin⟩ := by
  unfold F_end_times
  exact mf_u (S := S_end_times) (sx := sx_end_times) rfl rfl
theorem S_raw_at_risk_cn : S_raw_at_risk.cn = cnV := (add_cn S_end_times 10 P_end_times).trans S_end_times_cn
theorem S_raw_at_risk_sb : S_raw_at_risk.sb = sb0 := (add_sb S_end_times 10 P_end_times).trans S_end_times_sb
/-- raw_at_risk(seen, time) -/
def nm_raw_at_risk : List Str := [Str.ofString "seen", Str.ofString "time", Str.ofString "one"]
def ar_raw_at_risk : List Str := [Str.ofString "seen", Str.ofString "time"]
def sx_raw_at_risk : Sx := (.seq (.ret (.blt .len (.cons (.comp (.nm 2) (.var 0) (.cmp .ge (.idx (.var 2) (.int 0)) (.var 1)) (.var 2) [2]) .nil))) .nil)
theorem sc_raw_at_risk : FnScope nm_raw_at_risk ar_raw_at_risk (defScope (top 22)) := ⟨rfl, rfl, rfl, by decide +kernel, rfl, by decide +kernel, by decide +kernel⟩
theorem ck_raw_at_risk : (chkS ⟨nm_raw_at_risk, fnU 11, cnN, fnUp wlL 0, clN, flm false⟩ csN sx_raw_at_risk).blk (defScope (top 22)) (defBody (top 22)) = true := by decide +kernel
noncomputable def P_raw_at_risk : MF := mfOf S_raw_at_risk nm_raw_at_risk.length ar_raw_at_risk.length sx_raw_at_risk
@[irreducible] noncomputable def F_raw_at_risk : List PV → M PV := P_raw_at_risk.f
noncomputable def S_raw_ends : MSig := S_raw_at_risk.add 11 P_raw_at_risk
@[simp] theorem n_raw_at_risk : S_raw_at_risk.cn = cnV := S_raw_at_risk_cn
theorem u_raw_at_risk (a0 a1 : PV) : F_raw_at_risk [a0, a1] = @bnd _ _ (evS S_raw_at_risk (.seq (.ret (.blt .len (.cons (.comp (.nm 2) (.var 0) (.cmp .ge (.idx (.var 2) (.int 0)) (.var 1)) (.var 2) [2]) .nil))) .nil) [.fz a0, .fz a1, .un]) ⟨fin⟩ := by
  unfold F_raw_at_risk
  exact mf_u (S := S_raw_at_risk) (sx := sx_raw_at_risk) rfl rfl
theorem S_raw_ends_cn : S_raw_ends.cn = cnV := (add_cn S_raw_at_risk 11 P_raw_at_risk).trans S_raw_at_risk_cn
theorem S_raw_ends_sb : S_raw_ends.sb = sb0 := (add_sb S_raw_at_risk 11 P_raw_at_risk).trans S_raw_at_risk_sb
/-- raw_ends(seen, time) -/
def nm_raw_ends : List Str := [Str.ofString "seen", Str.ofString "time", Str.ofString "one"]
def ar_raw_ends : List Str := [Str.ofString "seen", Str.ofString "time"]
def sx_raw_ends : Sx := (.seq (.ret (.blt .len (.cons (.comp (.nm 2) (.var 0) (.and (.idx (.var 2) (.int 1)) (.one (.cmp .eq (.idx (.var 2) (.int 0)) (.var 1)))) (.var 2) [2]) .nil))) .nil)
theorem sc_raw_ends : FnScope nm_raw_ends ar_raw_ends (defScope (top 23)) := ⟨rfl, rfl, rfl, by decide +kernel, rfl, by decide +kernel, by decide +kernel⟩
theorem ck_raw_ends : (chkS ⟨nm_raw_ends, fnU 12, cnN, fnUp wlL 0, clN, flm false⟩ csN sx_raw_ends).blk (defScope (top 23)) (defBody (top 23)) = true := by decide +kernel
noncomputable def P_raw_ends : MF := mfOf S_raw_ends nm_raw_ends.length ar_raw_ends.length sx_raw_ends
@[irreducible] noncomputable def F_raw_ends : List PV → M PV := P_raw_ends.f
noncomputable def S_raw_curve : MSig := S_raw_ends.add 12 P_raw_ends
@[simp] theorem n_raw_ends : S_raw_ends.cn = cnV := S_raw_ends_cn
theorem u_raw_ends (a0 a1 : PV) : F_raw_ends [a0, a1] = @bnd _ _ (evS S_raw_ends (.seq (.ret (.blt .len (.cons (.comp (.nm 2) (.var 0) (.and (.idx (.var 2) (.int 1)) (.one (.cmp .eq (.idx (.var 2) (.int 0)) (.var 1)))) (.var 2) [2]) .nil))) .nil) [.fz a0, .fz a1, .un]) ⟨fin⟩ := by
  unfold F_raw_ends
  exact mf_u (S := S_raw_ends) (sx := sx_raw_ends) rfl rfl
theorem S_raw_curve_cn : S_raw_curve.cn = cnV := (add_cn S_raw_ends 12 P_raw_ends).trans S_raw_ends_cn
theorem S_raw_curve_sb : S_raw_curve.sb = sb0 := (add_sb S_raw_ends 12 P_raw_ends).trans S_raw_ends_sb
/-- raw_curve(seen) -/
def nm_raw_curve : List Str := [Str.ofString "seen", Str.ofString "time", Str.ofString "found", Str.ofString "share", Str.ofString "risk"]
def ar_raw_curve : List Str := [Str.ofString "seen"]
def bd_raw_curve_0 : Sx := (.seq (.set false 4 (.call 11 (.cons (.var 0) (.cons (.var 1) .nil)))) (.seq (.set false 3 (.call 5 (.cons (.var 3) (.cons (.call 4 (.cons (.bin .sub (.var 4) (.call 12 (.cons (.var 0) (.cons (.var 1) .nil)))) (.cons (.var 4) .nil))) .nil)))) (.seq (.app 2 (.tup (.cons (.var 1) (.cons (.var 3) .nil)))) .nil)))
def sx_raw_curve : Sx := (.seq (.par true 2 (.lst .nil) false 3 (.con 0)) (.seq (.for_ (.nm 1) (.call 10 (.cons (.var 0) .nil)) bd_raw_curve_0) (.seq (.frz 2) (.seq (.ret (.var 2)) .nil))))
theorem sc_raw_curve : FnScope nm_raw_curve ar_raw_curve (defScope (top 24)) := ⟨rfl, rfl, rfl, by decide +kernel, rfl, by decide +kernel, by decide +kernel⟩
theorem ck_raw_curve : (chkS ⟨nm_raw_curve, fnU 13, cnN, fnUp wlL 0, clN, flm false⟩ csN sx_raw_curve).blk (defScope (top 24)) (defBody (top 24)) = true := by decide +kernel
noncomputable def P_raw_curve : MF := mfOf S_raw_curve nm_raw_curve.length ar_raw_curve.length sx_raw_curve
@[irreducible] noncomputable def F_raw_curve : List PV → M PV := P_raw_curve.f
noncomputable def S_curve : MSig := S_raw_curve.add 13 P_raw_curve
@[simp] theorem n_raw_curve : S_raw_curve.cn = cnV := S_raw_curve_cn
@[simp] theorem q_raw_curve_4 : (S_raw_curve.F 4).f = F_raw_made := by unfold F_raw_made; rfl
@[simp] theorem q_raw_curve_5 : (S_raw_curve.F 5).f = F_raw_times := by unfold F_raw_times; rfl
@[simp] theorem q_raw_curve_10 : (S_raw_curve.F 10).f = F_end_times := by unfold F_end_times; rfl
@[simp] theorem q_raw_curve_11 : (S_raw_curve.F 11).f = F_raw_at_risk := by unfold F_raw_at_risk; rfl
@[simp] theorem q_raw_curve_12 : (S_raw_curve.F 12).f = F_raw_ends := by unfold F_raw_ends; rfl
theorem b_raw_curve_0 (ρ : Env') : evS S_raw_curve bd_raw_curve_0 ρ = evS S_raw_curve (.seq (.set false 4 (.call 11 (.cons (.var 0) (.cons (.var 1) .nil)))) (.seq (.set false 3 (.call 5 (.cons (.var 3) (.cons (.call 4 (.cons (.bin .sub (.var 4) (.call 12 (.cons (.var 0) (.cons (.var 1) .nil)))) (.cons (.var 4) .nil))) .nil)))) (.seq (.app 2 (.tup (.cons (.var 1) (.cons (.var 3) .nil)))) .nil))) ρ := (rfl)
theorem u_raw_curve (a0 : PV) : F_raw_curve [a0] = @bnd _ _ (evS S_raw_curve (.seq (.par true 2 (.lst .nil) false 3 (.con 0)) (.seq (.for_ (.nm 1) (.call 10 (.cons (.var 0) .nil)) bd_raw_curve_0) (.seq (.frz 2) (.seq (.ret (.var 2)) .nil)))) [.fz a0, .un, .un, .un, .un]) ⟨fin⟩ := by
  unfold F_raw_curve
  exact mf_u (S := S_raw_curve) (sx := sx_raw_curve) rfl rfl
theorem S_curve_cn : S_curve.cn = cnV := (add_cn S_raw_curve 13 P_raw_curve).trans S_raw_curve_cn
theorem S_curve_sb : S_curve.sb = sb0 := (add_sb S_raw_curve 13 P_raw_curve).trans S_raw_curve_sb
/-- curve(seen) -/
def nm_curve : List Str := [Str.ofString "seen"]
def ar_curve : List Str := [Str.ofString "seen"]
def sx_curve : Sx := (.seq (.exp (.call 8 (.cons (.var 0) .nil))) (.seq (.ret (.blt .tuple (.cons (.call 13 (.cons (.var 0) .nil)) .nil))) .nil))
theorem sc_curve : FnScope nm_curve ar_curve (defScope (top 25)) := ⟨rfl, rfl, rfl, by decide +kernel, rfl, by decide +kernel, by decide +kernel⟩
theorem ck_curve : (chkS ⟨nm_curve, fnU 14, cnN, fnUp wlL 0, clN, flm false⟩ csN sx_curve).blk (defScope (top 25)) (defBody (top 25)) = true := by decide +kernel
noncomputable def P_curve : MF := mfOf S_curve nm_curve.length ar_curve.length sx_curve
@[irreducible] noncomputable def F_curve : List PV → M PV := P_curve.f
noncomputable def S_raw_survives : MSig := S_curve.add 14 P_curve
@[simp] theorem n_curve : S_curve.cn = cnV := S_curve_cn
@[simp] theorem q_curve_8 : (S_curve.F 8).f = F_check_seen := by unfold F_check_seen; rfl
@[simp] theorem q_curve_13 : (S_curve.F 13).f = F_raw_curve := by unfold F_raw_curve; rfl
theorem u_curve (a0 : PV) : F_curve [a0] = @bnd _ _ (evS S_curve (.seq (.exp (.call 8 (.cons (.var 0) .nil))) (.seq (.ret (.blt .tuple (.cons (.call 13 (.cons (.var 0) .nil)) .nil))) .nil)) [.fz a0]) ⟨fin⟩ := by
  unfold F_curve
  exact mf_u (S := S_curve) (sx := sx_curve) rfl rfl
theorem S_raw_survives_cn : S_raw_survives.cn = cnV := (add_cn S_curve 14 P_curve).trans S_curve_cn
theorem S_raw_survives_sb : S_raw_survives.sb = sb0 := (add_sb S_curve 14 P_curve).trans S_curve_sb
/-- raw_survives(seen, time) -/
def nm_raw_survives : List Str := [Str.ofString "seen", Str.ofString "time", Str.ofString "found", Str.ofString "end", Str.ofString "share"]
def ar_raw_survives : List Str := [Str.ofString "seen", Str.ofString "time"]
def bd_raw_survives_0 : Sx := (.seq (.set false 2 (.ite (.cmp .le (.var 3) (.var 1)) (.var 4) (.var 2))) .nil)
def sx_raw_survives : Sx := (.seq (.set false 2 (.con 0)) (.seq (.for_ (.tp (.cons (.nm 3) (.cons (.nm 4) .nil))) (.call 13 (.cons (.var 0) .nil)) bd_raw_survives_0) (.seq (.ret (.var 2)) .nil)))
theorem sc_raw_survives : FnScope nm_raw_survives ar_raw_survives (defScope (top 26)) := ⟨rfl, rfl, rfl, by decide +kernel, rfl, by decide +kernel, by decide +kernel⟩
theorem ck_raw_survives : (chkS ⟨nm_raw_survives, fnU 15, cnN, fnUp wlL 0, clN, flm false⟩ csN sx_raw_survives).blk (defScope (top 26)) (defBody (top 26)) = true := by decide +kernel
noncomputable def P_raw_survives : MF := mfOf S_raw_survives nm_raw_survives.length ar_raw_survives.length sx_raw_survives
@[irreducible] noncomputable def F_raw_survives : List PV → M PV := P_raw_survives.f
noncomputable def S_survives : MSig := S_raw_survives.add 15 P_raw_survives
@[simp] theorem n_raw_survives : S_raw_survives.cn = cnV := S_raw_survives_cn
@[simp] theorem q_raw_survives_13 : (S_raw_survives.F 13).f = F_raw_curve := by unfold F_raw_curve; rfl
theorem b_raw_survives_0 (ρ : Env') : evS S_raw_survives bd_raw_survives_0 ρ = evS S_raw_survives (.seq (.set false 2 (.ite (.cmp .le (.var 3) (.var 1)) (.var 4) (.var 2))) .nil) ρ := (rfl)
theorem u_raw_survives (a0 a1 : PV) : F_raw_survives [a0, a1] = @bnd _ _ (evS S_raw_survives (.seq (.set false 2 (.con 0)) (.seq (.for_ (.tp (.cons (.nm 3) (.cons (.nm 4) .nil))) (.call 13 (.cons (.var 0) .nil)) bd_raw_survives_0) (.seq (.ret (.var 2)) .nil))) [.fz a0, .fz a1, .un, .un, .un]) ⟨fin⟩ := by
  unfold F_raw_survives
  exact mf_u (S := S_raw_survives) (sx := sx_raw_survives) rfl rfl
theorem S_survives_cn : S_survives.cn = cnV := (add_cn S_raw_survives 15 P_raw_survives).trans S_raw_survives_cn
theorem S_survives_sb : S_survives.sb = sb0 := (add_sb S_raw_survives 15 P_raw_survives).trans S_raw_survives_sb
/-- survives(seen, time) -/
def nm_survives : List Str := [Str.ofString "seen", Str.ofString "time"]
def ar_survives : List Str := [Str.ofString "seen", Str.ofString "time"]
def sx_survives : Sx := (.seq (.exp (.call 9 (.cons (.var 0) (.cons (.var 1) .nil)))) (.seq (.ret (.call 15 (.cons (.var 0) (.cons (.var 1) .nil)))) .nil))
theorem sc_survives : FnScope nm_survives ar_survives (defScope (top 27)) := ⟨rfl, rfl, rfl, by decide +kernel, rfl, by decide +kernel, by decide +kernel⟩
theorem ck_survives : (chkS ⟨nm_survives, fnU 16, cnN, fnUp wlL 0, clN, flm false⟩ csN sx_survives).blk (defScope (top 27)) (defBody (top 27)) = true := by decide +kernel
noncomputable def P_survives : MF := mfOf S_survives nm_survives.length ar_survives.length sx_survives
@[irreducible] noncomputable def F_survives : List PV → M PV := P_survives.f
noncomputable def S_at_risk : MSig := S_survives.add 16 P_survives
@[simp] theorem n_survives : S_survives.cn = cnV := S_survives_cn
@[simp] theorem q_survives_9 : (S_survives.F 9).f = F_check_seen_time := by unfold F_check_seen_time; rfl
@[simp] theorem q_survives_15 : (S_survives.F 15).f = F_raw_survives := by unfold F_raw_survives; rfl
theorem u_survives (a0 a1 : PV) : F_survives [a0, a1] = @bnd _ _ (evS S_survives (.seq (.exp (.call 9 (.cons (.var 0) (.cons (.var 1) .nil)))) (.seq (.ret (.call 15 (.cons (.var 0) (.cons (.var 1) .nil)))) .nil)) [.fz a0, .fz a1]) ⟨fin⟩ := by
  unfold F_survives
  exact mf_u (S := S_survives) (sx := sx_survives) rfl rfl
theorem S_at_risk_cn : S_at_risk.cn = cnV := (add_cn S_survives 16 P_survives).trans S_survives_cn
theorem S_at_risk_sb : S_at_risk.sb = sb0 := (add_sb S_survives 16 P_survives).trans S_survives_sb
/-- at_risk(seen, time) -/
def nm_at_risk : List Str := [Str.ofString "seen", Str.ofString "time"]
def ar_at_risk : List Str := [Str.ofString "seen", Str.ofString "time"]
def sx_at_risk : Sx := (.seq (.exp (.call 9 (.cons (.var 0) (.cons (.var 1) .nil)))) (.seq (.ret (.call 11 (.cons (.var 0) (.cons (.var 1) .nil)))) .nil))
theorem sc_at_risk : FnScope nm_at_risk ar_at_risk (defScope (top 28)) := ⟨rfl, rfl, rfl, by decide +kernel, rfl, by decide +kernel, by decide +kernel⟩
theorem ck_at_risk : (chkS ⟨nm_at_risk, fnU 17, cnN, fnUp wlL 0, clN, flm false⟩ csN sx_at_risk).blk (defScope (top 28)) (defBody (top 28)) = true := by decide +kernel
noncomputable def P_at_risk : MF := mfOf S_at_risk nm_at_risk.length ar_at_risk.length sx_at_risk
@[irreducible] noncomputable def F_at_risk : List PV → M PV := P_at_risk.f
noncomputable def S_ends_at : MSig := S_at_risk.add 17 P_at_risk
@[simp] theorem n_at_risk : S_at_risk.cn = cnV := S_at_risk_cn
@[simp] theorem q_at_risk_9 : (S_at_risk.F 9).f = F_check_seen_time := by unfold F_check_seen_time; rfl
@[simp] theorem q_at_risk_11 : (S_at_risk.F 11).f = F_raw_at_risk := by unfold F_raw_at_risk; rfl
theorem u_at_risk (a0 a1 : PV) : F_at_risk [a0, a1] = @bnd _ _ (evS S_at_risk (.seq (.exp (.call 9 (.cons (.var 0) (.cons (.var 1) .nil)))) (.seq (.ret (.call 11 (.cons (.var 0) (.cons (.var 1) .nil)))) .nil)) [.fz a0, .fz a1]) ⟨fin⟩ := by
  unfold F_at_risk
  exact mf_u (S := S_at_risk) (sx := sx_at_risk) rfl rfl
theorem S_ends_at_cn : S_ends_at.cn = cnV := (add_cn S_at_risk 17 P_at_risk).trans S_at_risk_cn
theorem S_ends_at_sb : S_ends_at.sb = sb0 := (add_sb S_at_risk 17 P_at_risk).trans S_at_risk_sb
/-- ends_at(seen, time) -/
def nm_ends_at : List Str := [Str.ofString "seen", Str.ofString "time"]
def ar_ends_at : List Str := [Str.ofString "seen", Str.ofString "time"]
def sx_ends_at : Sx := (.seq (.exp (.call 9 (.cons (.var 0) (.cons (.var 1) .nil)))) (.seq (.ret (.call 12 (.cons (.var 0) (.cons (.var 1) .nil)))) .nil))
theorem sc_ends_at : FnScope nm_ends_at ar_ends_at (defScope (top 29)) := ⟨rfl, rfl, rfl, by decide +kernel, rfl, by decide +kernel, by decide +kernel⟩
theorem ck_ends_at : (chkS ⟨nm_ends_at, fnU 18, cnN, fnUp wlL 0, clN, flm false⟩ csN sx_ends_at).blk (defScope (top 29)) (defBody (top 29)) = true := by decide +kernel
noncomputable def P_ends_at : MF := mfOf S_ends_at nm_ends_at.length ar_ends_at.length sx_ends_at
@[irreducible] noncomputable def F_ends_at : List PV → M PV := P_ends_at.f
noncomputable def S_half_time : MSig := S_ends_at.add 18 P_ends_at
@[simp] theorem n_ends_at : S_ends_at.cn = cnV := S_ends_at_cn
@[simp] theorem q_ends_at_9 : (S_ends_at.F 9).f = F_check_seen_time := by unfold F_check_seen_time; rfl
@[simp] theorem q_ends_at_12 : (S_ends_at.F 12).f = F_raw_ends := by unfold F_raw_ends; rfl
theorem u_ends_at (a0 a1 : PV) : F_ends_at [a0, a1] = @bnd _ _ (evS S_ends_at (.seq (.exp (.call 9 (.cons (.var 0) (.cons (.var 1) .nil)))) (.seq (.ret (.call 12 (.cons (.var 0) (.cons (.var 1) .nil)))) .nil)) [.fz a0, .fz a1]) ⟨fin⟩ := by
  unfold F_ends_at
  exact mf_u (S := S_ends_at) (sx := sx_ends_at) rfl rfl
theorem S_half_time_cn : S_half_time.cn = cnV := (add_cn S_ends_at 18 P_ends_at).trans S_ends_at_cn
theorem S_half_time_sb : S_half_time.sb = sb0 := (add_sb S_ends_at 18 P_ends_at).trans S_ends_at_sb
/-- half_time(seen) -/
def nm_half_time : List Str := [Str.ofString "seen", Str.ofString "some", Str.ofString "time", Str.ofString "share"]
def ar_half_time : List Str := [Str.ofString "seen"]
def sx_half_time : Sx := (.seq (.exp (.call 8 (.cons (.var 0) .nil))) (.seq (.set false 1 (.comp (.tp (.cons (.nm 2) (.cons (.nm 3) .nil))) (.call 13 (.cons (.var 0) .nil)) (.cmp .le (.call 6 (.cons (.var 3) (.cons (.con 3) .nil))) (.int 0)) (.var 2) [2, 3])) (.seq (.ret (.ite (.cmp .gt (.blt .len (.cons (.var 1) .nil)) (.int 0)) (.idx (.var 1) (.int 0)) .non)) .nil)))
theorem sc_half_time : FnScope nm_half_time ar_half_time (defScope (top 30)) := ⟨rfl, rfl, rfl, by decide +kernel, rfl, by decide +kernel, by decide +kernel⟩
theorem ck_half_time : (chkS ⟨nm_half_time, fnU 19, cnN, fnUp wlL 0, clN, flm false⟩ csN sx_half_time).blk (defScope (top 30)) (defBody (top 30)) = true := by decide +kernel
noncomputable def P_half_time : MF := mfOf S_half_time nm_half_time.length ar_half_time.length sx_half_time
@[irreducible] noncomputable def F_half_time : List PV → M PV := P_half_time.f
noncomputable def S_without_lost : MSig := S_half_time.add 19 P_half_time
@[simp] theorem n_half_time : S_half_time.cn = cnV := S_half_time_cn
@[simp] theorem q_half_time_6 : (S_half_time.F 6).f = F_raw_compared := by unfold F_raw_compared; rfl
@[simp] theorem q_half_time_8 : (S_half_time.F 8).f = F_check_seen := by unfold F_check_seen; rfl
@[simp] theorem q_half_time_13 : (S_half_time.F 13).f = F_raw_curve := by unfold F_raw_curve; rfl
theorem u_half_time (a0 : PV) : F_half_time [a0] = @bnd _ _ (evS S_half_time (.seq (.exp (.call 8 (.cons (.var 0) .nil))) (.seq (.set false 1 (.comp (.tp (.cons (.nm 2) (.cons (.nm 3) .nil))) (.call 13 (.cons (.var 0) .nil)) (.cmp .le (.call 6 (.cons (.var 3) (.cons (.con 3) .nil))) (.int 0)) (.var 2) [2, 3])) (.seq (.ret (.ite (.cmp .gt (.blt .len (.cons (.var 1) .nil)) (.int 0)) (.idx (.var 1) (.int 0)) .non)) .nil))) [.fz a0, .un, .un, .un]) ⟨fin⟩ := by
  unfold F_half_time
  exact mf_u (S := S_half_time) (sx := sx_half_time) rfl rfl
theorem S_without_lost_cn : S_without_lost.cn = cnV := (add_cn S_half_time 19 P_half_time).trans S_half_time_cn
theorem S_without_lost_sb : S_without_lost.sb = sb0 := (add_sb S_half_time 19 P_half_time).trans S_half_time_sb
/-- without_lost(seen) -/
def nm_without_lost : List Str := [Str.ofString "seen", Str.ofString "some", Str.ofString "one"]
def ar_without_lost : List Str := [Str.ofString "seen"]
def sx_without_lost : Sx := (.seq (.exp (.call 8 (.cons (.var 0) .nil))) (.seq (.set false 1 (.blt .tuple (.cons (.comp (.nm 2) (.var 0) (.idx (.var 2) (.int 1)) (.var 2) [2]) .nil))) (.seq (.ret (.ite (.cmp .gt (.blt .len (.cons (.var 1) .nil)) (.int 0)) (.var 1) .non)) .nil)))
theorem sc_without_lost : FnScope nm_without_lost ar_without_lost (defScope (top 31)) := ⟨rfl, rfl, rfl, by decide +kernel, rfl, by decide +kernel, by decide +kernel⟩
theorem ck_without_lost : (chkS ⟨nm_without_lost, fnU 20, cnN, fnUp wlL 0, clN, flm false⟩ csN sx_without_lost).blk (defScope (top 31)) (defBody (top 31)) = true := by decide +kernel
noncomputable def P_without_lost : MF := mfOf S_without_lost nm_without_lost.length ar_without_lost.length sx_without_lost
@[irreducible] noncomputable def F_without_lost : List PV → M PV := P_without_lost.f
noncomputable def S__law_tape : MSig := S_without_lost.add 20 P_without_lost
@[simp] theorem n_without_lost : S_without_lost.cn = cnV := S_without_lost_cn
@[simp] theorem q_without_lost_8 : (S_without_lost.F 8).f = F_check_seen := by unfold F_check_seen; rfl
theorem u_without_lost (a0 : PV) : F_without_lost [a0] = @bnd _ _ (evS S_without_lost (.seq (.exp (.call 8 (.cons (.var 0) .nil))) (.seq (.set false 1 (.blt .tuple (.cons (.comp (.nm 2) (.var 0) (.idx (.var 2) (.int 1)) (.var 2) [2]) .nil))) (.seq (.ret (.ite (.cmp .gt (.blt .len (.cons (.var 1) .nil)) (.int 0)) (.var 1) .non)) .nil))) [.fz a0, .un, .un]) ⟨fin⟩ := by
  unfold F_without_lost
  exact mf_u (S := S_without_lost) (sx := sx_without_lost) rfl rfl
theorem S__law_tape_cn : S__law_tape.cn = cnV := (add_cn S_without_lost 20 P_without_lost).trans S_without_lost_cn
theorem S__law_tape_sb : S__law_tape.sb = sb0 := (add_sb S_without_lost 20 P_without_lost).trans S_without_lost_sb
/-- _law_tape(script) -/
def nm__law_tape : List Str := [Str.ofString "script", Str.ofString "cells", Str.ofString "cell"]
def ar__law_tape : List Str := [Str.ofString "script"]
def sx__law_tape : Sx := (.seq (.set true 1 (.comp (.nm 2) (.slc (.var 0) .nil (.cons (.int 63) .nil)) .nil (.blt .abs (.cons (.blt .int (.cons (.var 2) .nil)) .nil)) [2])) .nil)
def as__law_tape : Ex := (.cons (.int 0) (.cons (.int 0) (.cons (.bin .add (.int 31) (.blt .len (.cons (.own 1) .nil))) (.cons (.int 0) .nil))))
theorem sc__law_tape : FnScope nm__law_tape ar__law_tape (defScope (top 33)) := ⟨rfl, rfl, rfl, by decide +kernel, rfl, by decide +kernel, by decide +kernel⟩
theorem ck__law_tape : chkH ⟨nm__law_tape, fnU 21, cnN, fnUp wlL 0, clN, f0⟩ csN sx__law_tape 1 as__law_tape (defScope (top 33)) (defBody (top 33)) = true := by decide +kernel
noncomputable def P__law_tape : MF := handF
@[irreducible] noncomputable def F__law_tape : List PV → M PV := P__law_tape.f
noncomputable def S__law_pick : MSig := S__law_tape.add 21 P__law_tape
theorem u__law_tape (ns : List Int) : F__law_tape [.scr ns] = M.hand fun a c => M.ret (.tok a c) := by unfold F__law_tape; rfl
theorem S__law_pick_cn : S__law_pick.cn = cnV := (add_cn S__law_tape 21 P__law_tape).trans S__law_tape_cn
theorem S__law_pick_sb : S__law_pick.sb = sb0 := (add_sb S__law_tape 21 P__law_tape).trans S__law_tape_sb
/-- _law_pick(tape, many) -/
def nm__law_pick : List Str := [Str.ofString "tape", Str.ofString "many", Str.ofString "number", Str.ofString "cell", Str.ofString "digit"]
def ar__law_pick : List Str := [Str.ofString "tape", Str.ofString "many"]
def sx__law_pick : Vx := (.seq (.ite (.and (.cmp .eq (.idx (.var 0) (.int 2)) (.int 0)) (.one (.cmp .lt (.idx (.var 0) (.int 1)) (.blt .len (.cons (.idx (.var 0) (.int 0)) .nil))))) (.seq (.set 3 (.idx (.idx (.var 0) (.int 0)) (.idx (.var 0) (.int 1)))) (.seq (.sto (.var 0) (.int 1) (.bin .add (.idx (.var 0) (.int 1)) (.int 1))) (.seq (.sto (.var 0) (.int 3) (.bin .mod (.blt .int (.cons (.bin .add (.bin .add (.bin .mul (.idx (.var 0) (.int 3)) (.int 69621)) (.var 3)) (.int 11)) .nil)) (.int 2147483629))) (.seq (.ite (.cmp .ge (.var 3) (.bin .pow (.int 10) (.int 18))) (.seq (.sto (.var 0) (.int 2) (.var 3)) .nil) .nil) .nil)))) .nil) (.seq (.ite (.cmp .gt (.idx (.var 0) (.int 2)) (.int 0)) (.seq (.set 4 (.bin .mod (.blt .int (.cons (.idx (.var 0) (.int 2)) .nil)) (.var 1))) (.seq (.sto (.var 0) (.int 2) (.bin .fdv (.idx (.var 0) (.int 2)) (.var 1))) (.seq (.ret (.var 4)) .nil))) .nil) (.seq (.sto (.var 0) (.int 4) (.bin .add (.idx (.var 0) (.int 4)) (.int 1))) (.seq (.set 2 (.bin .mod (.blt .int (.cons (.bin .mul (.blt .int (.cons (.bin .add (.idx (.var 0) (.int 3)) (.bin .mul (.int 7919) (.idx (.var 0) (.int 4)))) .nil)) (.int 48271)) .nil)) (.int 2147483647))) (.seq (.set 2 (.bin .mod (.blt .int (.cons (.bin .mul (.var 2) (.bin .add (.bin .fdv (.var 2) (.int 1009)) (.int 69621))) .nil)) (.int 2147483647))) (.seq (.set 2 (.bin .mod (.blt .int (.cons (.bin .mul (.var 2) (.bin .add (.bin .fdv (.var 2) (.int 2003)) (.int 40692))) .nil)) (.int 2147483399))) (.seq (.ret (.bin .mod (.blt .int (.cons (.bin .fdv (.var 2) (.int 16)) .nil)) (.var 1))) .nil)))))))
theorem sc__law_pick : FnScope nm__law_pick ar__law_pick (defScope (top 34)) := ⟨rfl, rfl, rfl, by decide +kernel, rfl, by decide +kernel, by decide +kernel⟩
theorem ck__law_pick : (chkV ⟨nm__law_pick, fnU 22, cnN, fnUp wlL 0, clN, f0⟩ sx__law_pick).blk (defScope (top 34)) (defBody (top 34)) = true := by decide +kernel
noncomputable def P__law_pick : MF := drawF
@[irreducible] noncomputable def F__law_pick : List PV → M PV := P__law_pick.f
noncomputable def S__law_any : MSig := S__law_pick.add 22 P__law_pick
theorem u__law_pick (a c : Addr) (n : Int) : F__law_pick [.tok a c, .int n] = M.pick n fun r => M.ret (.int r) := by unfold F__law_pick; rfl
theorem S__law_any_cn : S__law_any.cn = cnV := (add_cn S__law_pick 22 P__law_pick).trans S__law_pick_cn
theorem S__law_any_sb : S__law_any.sb = sb0 := (add_sb S__law_pick 22 P__law_pick).trans S__law_pick_sb
/-- _law_any(tape, things) -/
def nm__law_any : List Str := [Str.ofString "tape", Str.ofString "things"]
def ar__law_any : List Str := [Str.ofString "tape", Str.ofString "things"]
def sx__law_any : Sx := (.seq (.ret (.idx (.var 1) (.call 22 (.cons (.var 0) (.cons (.blt .len (.cons (.var 1) .nil)) .nil))))) .nil)
theorem sc__law_any : FnScope nm__law_any ar__law_any (defScope (top 35)) := ⟨rfl, rfl, rfl, by decide +kernel, rfl, by decide +kernel, by decide +kernel⟩
theorem ck__law_any : (chkS ⟨nm__law_any, fnU 23, cnN, fnUp wlL 0, clN, flm false⟩ csN sx__law_any).blk (defScope (top 35)) (defBody (top 35)) = true := by decide +kernel
noncomputable def P__law_any : MF := mfOf S__law_any nm__law_any.length ar__law_any.length sx__law_any
@[irreducible] noncomputable def F__law_any : List PV → M PV := P__law_any.f
noncomputable def S__law_mixed : MSig := S__law_any.add 23 P__law_any
@[simp] theorem n__law_any : S__law_any.cn = cnV := S__law_any_cn
@[simp] theorem q__law_any_22 : (S__law_any.F 22).f = F__law_pick := by unfold F__law_pick; rfl
theorem u__law_any (a0 a1 : PV) : F__law_any [a0, a1] = @bnd _ _ (evS S__law_any (.seq (.ret (.idx (.var 1) (.call 22 (.cons (.var 0) (.cons (.blt .len (.cons (.var 1) .nil)) .nil))))) .nil) [.fz a0, .fz a1]) ⟨fin⟩ := by
  unfold F__law_any
  exact mf_u (S := S__law_any) (sx := sx__law_any) rfl rfl
theorem S__law_mixed_cn : S__law_mixed.cn = cnV := (add_cn S__law_any 23 P__law_any).trans S__law_any_cn
theorem S__law_mixed_sb : S__law_mixed.sb = sb0 := (add_sb S__law_any 23 P__law_any).trans S__law_any_sb
/-- _law_mixed(tape, things) -/
def nm__law_mixed : List Str := [Str.ofString "tape", Str.ofString "things", Str.ofString "left", Str.ofString "found"]
def ar__law_mixed : List Str := [Str.ofString "tape", Str.ofString "things"]
def bd__law_mixed_0 : Sx := (.seq (.appP 3 2 (.call 22 (.cons (.var 0) (.cons (.blt .len (.cons (.own 2) .nil)) .nil)))) .nil)
def sx__law_mixed : Sx := (.seq (.par true 2 (.blt .list (.cons (.var 1) .nil)) true 3 (.lst .nil)) (.seq (.whl (.cmp .gt (.blt .len (.cons (.own 2) .nil)) (.int 0)) bd__law_mixed_0) (.seq (.frz 3) (.seq (.ret (.var 3)) .nil))))
theorem sc__law_mixed : FnScope nm__law_mixed ar__law_mixed (defScope (top 36)) := ⟨rfl, rfl, rfl, by decide +kernel, rfl, by decide +kernel, by decide +kernel⟩
theorem ck__law_mixed : (chkS ⟨nm__law_mixed, fnU 24, cnN, fnUp wlL 0, clN, flm false⟩ csN sx__law_mixed).blk (defScope (top 36)) (defBody (top 36)) = true := by decide +kernel
noncomputable def P__law_mixed : MF := mfOf S__law_mixed nm__law_mixed.length ar__law_mixed.length sx__law_mixed
@[irreducible] noncomputable def F__law_mixed : List PV → M PV := P__law_mixed.f
noncomputable def S__law_shared : MSig := S__law_mixed.add 24 P__law_mixed
@[simp] theorem n__law_mixed : S__law_mixed.cn = cnV := S__law_mixed_cn
@[simp] theorem q__law_mixed_22 : (S__law_mixed.F 22).f = F__law_pick := by unfold F__law_pick; rfl
theorem b__law_mixed_0 (ρ : Env') : evS S__law_mixed bd__law_mixed_0 ρ = evS S__law_mixed (.seq (.appP 3 2 (.call 22 (.cons (.var 0) (.cons (.blt .len (.cons (.own 2) .nil)) .nil)))) .nil) ρ := (rfl)
theorem u__law_mixed (a0 a1 : PV) : F__law_mixed [a0, a1] = @bnd _ _ (evS S__law_mixed (.seq (.par true 2 (.blt .list (.cons (.var 1) .nil)) true 3 (.lst .nil)) (.seq (.whl (.cmp .gt (.blt .len (.cons (.own 2) .nil)) (.int 0)) bd__law_mixed_0) (.seq (.frz 3) (.seq (.ret (.var 3)) .nil)))) [.fz a0, .fz a1, .un, .un]) ⟨fin⟩ := by
  unfold F__law_mixed
  exact mf_u (S := S__law_mixed) (sx := sx__law_mixed) rfl rfl
theorem S__law_shared_cn : S__law_shared.cn = cnV := (add_cn S__law_mixed 24 P__law_mixed).trans S__law_mixed_cn
theorem S__law_shared_sb : S__law_shared.sb = sb0 := (add_sb S__law_mixed 24 P__law_mixed).trans S__law_mixed_sb
/-- _law_shared(one, other) -/
def nm__law_shared : List Str := [Str.ofString "one", Str.ofString "other"]
def ar__law_shared : List Str := [Str.ofString "one", Str.ofString "other"]
def bd__law_shared_0 : Sx := (.seq (.par false 0 (.var 1) false 1 (.bin .mod (.blt .int (.cons (.var 0) .nil)) (.var 1))) .nil)
def sx__law_shared : Sx := (.seq (.whl (.cmp .gt (.var 1) (.int 0)) bd__law_shared_0) (.seq (.ret (.var 0)) .nil))
theorem sc__law_shared : FnScope nm__law_shared ar__law_shared (defScope (top 37)) := ⟨rfl, rfl, rfl, by decide +kernel, rfl, by decide +kernel, by decide +kernel⟩
theorem ck__law_shared : (chkS ⟨nm__law_shared, fnU 25, cnN, fnUp wlL 0, clN, flm false⟩ csN sx__law_shared).blk (defScope (top 37)) (defBody (top 37)) = true := by decide +kernel
noncomputable def P__law_shared : MF := mfOf S__law_shared nm__law_shared.length ar__law_shared.length sx__law_shared
@[irreducible] noncomputable def F__law_shared : List PV → M PV := P__law_shared.f
noncomputable def S__law_over : MSig := S__law_shared.add 25 P__law_shared
@[simp] theorem n__law_shared : S__law_shared.cn = cnV := S__law_shared_cn
theorem b__law_shared_0 (ρ : Env') : evS S__law_shared bd__law_shared_0 ρ = evS S__law_shared (.seq (.par false 0 (.var 1) false 1 (.bin .mod (.blt .int (.cons (.var 0) .nil)) (.var 1))) .nil) ρ := (rfl)
theorem u__law_shared (a0 a1 : PV) : F__law_shared [a0, a1] = @bnd _ _ (evS S__law_shared (.seq (.whl (.cmp .gt (.var 1) (.int 0)) bd__law_shared_0) (.seq (.ret (.var 0)) .nil)) [.fz a0, .fz a1]) ⟨fin⟩ := by
  unfold F__law_shared
  exact mf_u (S := S__law_shared) (sx := sx__law_shared) rfl rfl
theorem S__law_over_cn : S__law_over.cn = cnV := (add_cn S__law_shared 25 P__law_shared).trans S__law_shared_cn
theorem S__law_over_sb : S__law_over.sb = sb0 := (add_sb S__law_shared 25 P__law_shared).trans S__law_shared_sb
/-- _law_over(top, bottom) -/
def nm__law_over : List Str := [Str.ofString "top", Str.ofString "bottom", Str.ofString "same"]
def ar__law_over : List Str := [Str.ofString "top", Str.ofString "bottom"]
def sx__law_over : Sx := (.seq (.set false 2 (.call 25 (.cons (.blt .abs (.cons (.var 0) .nil)) (.cons (.var 1) .nil)))) (.seq (.ret (.tup (.cons (.bin .fdv (.var 0) (.var 2)) (.cons (.bin .fdv (.var 1) (.var 2)) .nil)))) .nil))
theorem sc__law_over : FnScope nm__law_over ar__law_over (defScope (top 38)) := ⟨rfl, rfl, rfl, by decide +kernel, rfl, by decide +kernel, by decide +kernel⟩
theorem ck__law_over : (chkS ⟨nm__law_over, fnU 26, cnN, fnUp wlL 0, clN, flm false⟩ csN sx__law_over).blk (defScope (top 38)) (defBody (top 38)) = true := by decide +kernel
noncomputable def P__law_over : MF := mfOf S__law_over nm__law_over.length ar__law_over.length sx__law_over
@[irreducible] noncomputable def F__law_over : List PV → M PV := P__law_over.f
noncomputable def S__law_times : MSig := S__law_over.add 26 P__law_over
@[simp] theorem n__law_over : S__law_over.cn = cnV := S__law_over_cn
@[simp] theorem q__law_over_25 : (S__law_over.F 25).f = F__law_shared := by unfold F__law_shared; rfl
theorem u__law_over (a0 a1 : PV) : F__law_over [a0, a1] = @bnd _ _ (evS S__law_over (.seq (.set false 2 (.call 25 (.cons (.blt .abs (.cons (.var 0) .nil)) (.cons (.var 1) .nil)))) (.seq (.ret (.tup (.cons (.bin .fdv (.var 0) (.var 2)) (.cons (.bin .fdv (.var 1) (.var 2)) .nil)))) .nil)) [.fz a0, .fz a1, .un]) ⟨fin⟩ := by
  unfold F__law_over
  exact mf_u (S := S__law_over) (sx := sx__law_over) rfl rfl
theorem S__law_times_cn : S__law_times.cn = cnV := (add_cn S__law_over 26 P__law_over).trans S__law_over_cn
theorem S__law_times_sb : S__law_times.sb = sb0 := (add_sb S__law_over 26 P__law_over).trans S__law_over_sb
/-- _law_times(one, other) -/
def nm__law_times : List Str := [Str.ofString "one", Str.ofString "other"]
def ar__law_times : List Str := [Str.ofString "one", Str.ofString "other"]
def sx__law_times : Sx := (.seq (.ret (.call 26 (.cons (.bin .mul (.idx (.var 0) (.int 0)) (.idx (.var 1) (.int 0))) (.cons (.bin .mul (.idx (.var 0) (.int 1)) (.idx (.var 1) (.int 1))) .nil)))) .nil)
theorem sc__law_times : FnScope nm__law_times ar__law_times (defScope (top 39)) := ⟨rfl, rfl, rfl, by decide +kernel, rfl, by decide +kernel, by decide +kernel⟩
theorem ck__law_times : (chkS ⟨nm__law_times, fnU 27, cnN, fnUp wlL 0, clN, flm false⟩ csN sx__law_times).blk (defScope (top 39)) (defBody (top 39)) = true := by decide +kernel
noncomputable def P__law_times : MF := mfOf S__law_times nm__law_times.length ar__law_times.length sx__law_times
@[irreducible] noncomputable def F__law_times : List PV → M PV := P__law_times.f
noncomputable def S__law_seen : MSig := S__law_times.add 27 P__law_times
@[simp] theorem n__law_times : S__law_times.cn = cnV := S__law_times_cn
@[simp] theorem q__law_times_26 : (S__law_times.F 26).f = F__law_over := by unfold F__law_over; rfl
theorem u__law_times (a0 a1 : PV) : F__law_times [a0, a1] = @bnd _ _ (evS S__law_times (.seq (.ret (.call 26 (.cons (.bin .mul (.idx (.var 0) (.int 0)) (.idx (.var 1) (.int 0))) (.cons (.bin .mul (.idx (.var 0) (.int 1)) (.idx (.var 1) (.int 1))) .nil)))) .nil) [.fz a0, .fz a1]) ⟨fin⟩ := by
  unfold F__law_times
  exact mf_u (S := S__law_times) (sx := sx__law_times) rfl rfl
theorem S__law_seen_cn : S__law_seen.cn = cnV := (add_cn S__law_times 27 P__law_times).trans S__law_times_cn
theorem S__law_seen_sb : S__law_seen.sb = sb0 := (add_sb S__law_times 27 P__law_times).trans S__law_times_sb
/-- _law_seen(tape) -/
def nm__law_seen : List Str := [Str.ofString "tape", Str.ofString "top", Str.ofString "step"]
def ar__law_seen : List Str := [Str.ofString "tape"]
def sx__law_seen : Sx := (.seq (.set false 1 (.call 23 (.cons (.var 0) (.cons (.lst (.cons (.int 4) (.cons (.int 8) (.cons (.int 30) .nil)))) .nil)))) (.seq (.ret (.blt .tuple (.cons (.comp (.nm 2) (.rng1 (.bin .add (.int 1) (.call 22 (.cons (.var 0) (.cons (.int 9) .nil))))) .nil (.tup (.cons (.call 22 (.cons (.var 0) (.cons (.var 1) .nil))) (.cons (.cmp .gt (.call 22 (.cons (.var 0) (.cons (.int 3) .nil))) (.int 0)) .nil))) [2]) .nil))) .nil))
theorem sc__law_seen : FnScope nm__law_seen ar__law_seen (defScope (top 40)) := ⟨rfl, rfl, rfl, by decide +kernel, rfl, by decide +kernel, by decide +kernel⟩
theorem ck__law_seen : (chkS ⟨nm__law_seen, fnU 28, cnN, fnUp wlL 0, clN, flm false⟩ csN sx__law_seen).blk (defScope (top 40)) (defBody (top 40)) = true := by decide +kernel
noncomputable def P__law_seen : MF := mfOf S__law_seen nm__law_seen.length ar__law_seen.length sx__law_seen
@[irreducible] noncomputable def F__law_seen : List PV → M PV := P__law_seen.f
noncomputable def S__law_risk : MSig := S__law_seen.add 28 P__law_seen
@[simp] theorem n__law_seen : S__law_seen.cn = cnV := S__law_seen_cn
@[simp] theorem q__law_seen_22 : (S__law_seen.F 22).f = F__law_pick := by unfold F__law_pick; rfl
@[simp] theorem q__law_seen_23 : (S__law_seen.F 23).f = F__law_any := by unfold F__law_any; rfl
theorem u__law_seen (a0 : PV) : F__law_seen [a0] = @bnd _ _ (evS S__law_seen (.seq (.set false 1 (.call 23 (.cons (.var 0) (.cons (.lst (.cons (.int 4) (.cons (.int 8) (.cons (.int 30) .nil)))) .nil)))) (.seq (.ret (.blt .tuple (.cons (.comp (.nm 2) (.rng1 (.bin .add (.int 1) (.call 22 (.cons (.var 0) (.cons (.int 9) .nil))))) .nil (.tup (.cons (.call 22 (.cons (.var 0) (.cons (.var 1) .nil))) (.cons (.cmp .gt (.call 22 (.cons (.var 0) (.cons (.int 3) .nil))) (.int 0)) .nil))) [2]) .nil))) .nil)) [.fz a0, .un, .un]) ⟨fin⟩ := by
  unfold F__law_seen
  exact mf_u (S := S__law_seen) (sx := sx__law_seen) rfl rfl
theorem S__law_risk_cn : S__law_risk.cn = cnV := (add_cn S__law_seen 28 P__law_seen).trans S__law_seen_cn
theorem S__law_risk_sb : S__law_risk.sb = sb0 := (add_sb S__law_seen 28 P__law_seen).trans S__law_seen_sb
/-- _law_risk(seen, time) -/
def nm__law_risk : List Str := [Str.ofString "seen", Str.ofString "time", Str.ofString "one", Str.ofString "flag"]
def ar__law_risk : List Str := [Str.ofString "seen", Str.ofString "time"]
def sx__law_risk : Sx := (.seq (.ret (.blt .len (.cons (.comp (.tp (.cons (.nm 2) (.cons (.nm 3) .nil))) (.var 0) (.cmp .ge (.var 2) (.var 1)) (.int 1) [2, 3]) .nil))) .nil)
theorem sc__law_risk : FnScope nm__law_risk ar__law_risk (defScope (top 41)) := ⟨rfl, rfl, rfl, by decide +kernel, rfl, by decide +kernel, by decide +kernel⟩
theorem ck__law_risk : (chkS ⟨nm__law_risk, fnU 29, cnN, fnUp wlL 0, clN, flm false⟩ csN sx__law_risk).blk (defScope (top 41)) (defBody (top 41)) = true := by decide +kernel
noncomputable def P__law_risk : MF := mfOf S__law_risk nm__law_risk.length ar__law_risk.length sx__law_risk
@[irreducible] noncomputable def F__law_risk : List PV → M PV := P__law_risk.f
noncomputable def S__law_ends : MSig := S__law_risk.add 29 P__law_risk
@[simp] theorem n__law_risk : S__law_risk.cn = cnV := S__law_risk_cn
theorem u__law_risk (a0 a1 : PV) : F__law_risk [a0, a1] = @bnd _ _ (evS S__law_risk (.seq (.ret (.blt .len (.cons (.comp (.tp (.cons (.nm 2) (.cons (.nm 3) .nil))) (.var 0) (.cmp .ge (.var 2) (.var 1)) (.int 1) [2, 3]) .nil))) .nil) [.fz a0, .fz a1, .un, .un]) ⟨fin⟩ := by
  unfold F__law_risk
  exact mf_u (S := S__law_risk) (sx := sx__law_risk) rfl rfl
theorem S__law_ends_cn : S__law_ends.cn = cnV := (add_cn S__law_risk 29 P__law_risk).trans S__law_risk_cn
theorem S__law_ends_sb : S__law_ends.sb = sb0 := (add_sb S__law_risk 29 P__law_risk).trans S__law_risk_sb
/-- _law_ends(seen, time) -/
def nm__law_ends : List Str := [Str.ofString "seen", Str.ofString "time", Str.ofString "one", Str.ofString "flag"]
def ar__law_ends : List Str := [Str.ofString "seen", Str.ofString "time"]
def sx__law_ends : Sx := (.seq (.ret (.blt .len (.cons (.comp (.tp (.cons (.nm 2) (.cons (.nm 3) .nil))) (.var 0) (.and (.cmp .eq (.var 2) (.var 1)) (.one (.var 3))) (.int 1) [2, 3]) .nil))) .nil)
theorem sc__law_ends : FnScope nm__law_ends ar__law_ends (defScope (top 42)) := ⟨rfl, rfl, rfl, by decide +kernel, rfl, by decide +kernel, by decide +kernel⟩
theorem ck__law_ends : (chkS ⟨nm__law_ends, fnU 30, cnN, fnUp wlL 0, clN, flm false⟩ csN sx__law_ends).blk (defScope (top 42)) (defBody (top 42)) = true := by decide +kernel
noncomputable def P__law_ends : MF := mfOf S__law_ends nm__law_ends.length ar__law_ends.length sx__law_ends
@[irreducible] noncomputable def F__law_ends : List PV → M PV := P__law_ends.f
noncomputable def S__law_times_of : MSig := S__law_ends.add 30 P__law_ends
@[simp] theorem n__law_ends : S__law_ends.cn = cnV := S__law_ends_cn
theorem u__law_ends (a0 a1 : PV) : F__law_ends [a0, a1] = @bnd _ _ (evS S__law_ends (.seq (.ret (.blt .len (.cons (.comp (.tp (.cons (.nm 2) (.cons (.nm 3) .nil))) (.var 0) (.and (.cmp .eq (.var 2) (.var 1)) (.one (.var 3))) (.int 1) [2, 3]) .nil))) .nil) [.fz a0, .fz a1, .un, .un]) ⟨fin⟩ := by
  unfold F__law_ends
  exact mf_u (S := S__law_ends) (sx := sx__law_ends) rfl rfl
theorem S__law_times_of_cn : S__law_times_of.cn = cnV := (add_cn S__law_ends 30 P__law_ends).trans S__law_ends_cn
theorem S__law_times_of_sb : S__law_times_of.sb = sb0 := (add_sb S__law_ends 30 P__law_ends).trans S__law_ends_sb
/-- _law_times_of(seen) -/
def nm__law_times_of : List Str := [Str.ofString "seen", Str.ofString "found", Str.ofString "time", Str.ofString "flag"]
def ar__law_times_of : List Str := [Str.ofString "seen"]
def bd__law_times_of_0 : Sx := (.seq (.ite (.var 3) (.seq (.stoD 1 (.var 2) (.tt true)) .nil) .nil) .nil)
def sx__law_times_of : Sx := (.seq (.setD 1) (.seq (.for_ (.tp (.cons (.nm 2) (.cons (.nm 3) .nil))) (.var 0) bd__law_times_of_0) (.seq (.ret (.blt .sorted (.cons (.own 1) .nil))) .nil)))
theorem sc__law_times_of : FnScope nm__law_times_of ar__law_times_of (defScope (top 43)) := ⟨rfl, rfl, rfl, by decide +kernel, rfl, by decide +kernel, by decide +kernel⟩
theorem ck__law_times_of : (chkS ⟨nm__law_times_of, fnU 31, cnN, fnUp wlL 0, clN, flm false⟩ csN sx__law_times_of).blk (defScope (top 43)) (defBody (top 43)) = true := by decide +kernel
noncomputable def P__law_times_of : MF := mfOf S__law_times_of nm__law_times_of.length ar__law_times_of.length sx__law_times_of
@[irreducible] noncomputable def F__law_times_of : List PV → M PV := P__law_times_of.f
noncomputable def S__law_curve : MSig := S__law_times_of.add 31 P__law_times_of
@[simp] theorem n__law_times_of : S__law_times_of.cn = cnV := S__law_times_of_cn
theorem b__law_times_of_0 (ρ : Env') : evS S__law_times_of bd__law_times_of_0 ρ = evS S__law_times_of (.seq (.ite (.var 3) (.seq (.stoD 1 (.var 2) (.tt true)) .nil) .nil) .nil) ρ := (rfl)
theorem u__law_times_of (a0 : PV) : F__law_times_of [a0] = @bnd _ _ (evS S__law_times_of (.seq (.setD 1) (.seq (.for_ (.tp (.cons (.nm 2) (.cons (.nm 3) .nil))) (.var 0) bd__law_times_of_0) (.seq (.ret (.blt .sorted (.cons (.own 1) .nil))) .nil))) [.fz a0, .un, .un, .un]) ⟨fin⟩ := by
  unfold F__law_times_of
  exact mf_u (S := S__law_times_of) (sx := sx__law_times_of) rfl rfl
theorem S__law_curve_cn : S__law_curve.cn = cnV := (add_cn S__law_times_of 31 P__law_times_of).trans S__law_times_of_cn
theorem S__law_curve_sb : S__law_curve.sb = sb0 := (add_sb S__law_times_of 31 P__law_times_of).trans S__law_times_of_sb
/-- _law_curve(seen) -/
def nm__law_curve : List Str := [Str.ofString "seen", Str.ofString "time", Str.ofString "found", Str.ofString "here", Str.ofString "risk"]
def ar__law_curve : List Str := [Str.ofString "seen"]
def bd__law_curve_0 : Sx := (.seq (.set false 4 (.call 29 (.cons (.var 0) (.cons (.var 1) .nil)))) (.seq (.set false 3 (.call 27 (.cons (.var 3) (.cons (.call 26 (.cons (.bin .sub (.var 4) (.call 30 (.cons (.var 0) (.cons (.var 1) .nil)))) (.cons (.var 4) .nil))) .nil)))) (.seq (.app 2 (.tup (.cons (.var 1) (.cons (.var 3) .nil)))) .nil)))
def sx__law_curve : Sx := (.seq (.par true 2 (.lst .nil) false 3 (.tup (.cons (.int 1) (.cons (.int 1) .nil)))) (.seq (.for_ (.nm 1) (.call 31 (.cons (.var 0) .nil)) bd__law_curve_0) (.seq (.frz 2) (.seq (.ret (.var 2)) .nil))))
theorem sc__law_curve : FnScope nm__law_curve ar__law_curve (defScope (top 44)) := ⟨rfl, rfl, rfl, by decide +kernel, rfl, by decide +kernel, by decide +kernel⟩
theorem ck__law_curve : (chkS ⟨nm__law_curve, fnU 32, cnN, fnUp wlL 0, clN, flm false⟩ csN sx__law_curve).blk (defScope (top 44)) (defBody (top 44)) = true := by decide +kernel
noncomputable def P__law_curve : MF := mfOf S__law_curve nm__law_curve.length ar__law_curve.length sx__law_curve
@[irreducible] noncomputable def F__law_curve : List PV → M PV := P__law_curve.f
noncomputable def S__law_no_seen : MSig := S__law_curve.add 32 P__law_curve
@[simp] theorem n__law_curve : S__law_curve.cn = cnV := S__law_curve_cn
@[simp] theorem q__law_curve_26 : (S__law_curve.F 26).f = F__law_over := by unfold F__law_over; rfl
@[simp] theorem q__law_curve_27 : (S__law_curve.F 27).f = F__law_times := by unfold F__law_times; rfl
@[simp] theorem q__law_curve_29 : (S__law_curve.F 29).f = F__law_risk := by unfold F__law_risk; rfl
@[simp] theorem q__law_curve_30 : (S__law_curve.F 30).f = F__law_ends := by unfold F__law_ends; rfl
@[simp] theorem q__law_curve_31 : (S__law_curve.F 31).f = F__law_times_of := by unfold F__law_times_of; rfl
theorem b__law_curve_0 (ρ : Env') : evS S__law_curve bd__law_curve_0 ρ = evS S__law_curve (.seq (.set false 4 (.call 29 (.cons (.var 0) (.cons (.var 1) .nil)))) (.seq (.set false 3 (.call 27 (.cons (.var 3) (.cons (.call 26 (.cons (.bin .sub (.var 4) (.call 30 (.cons (.var 0) (.cons (.var 1) .nil)))) (.cons (.var 4) .nil))) .nil)))) (.seq (.app 2 (.tup (.cons (.var 1) (.cons (.var 3) .nil)))) .nil))) ρ := (rfl)
theorem u__law_curve (a0 : PV) : F__law_curve [a0] = @bnd _ _ (evS S__law_curve (.seq (.par true 2 (.lst .nil) false 3 (.tup (.cons (.int 1) (.cons (.int 1) .nil)))) (.seq (.for_ (.nm 1) (.call 31 (.cons (.var 0) .nil)) bd__law_curve_0) (.seq (.frz 2) (.seq (.ret (.var 2)) .nil)))) [.fz a0, .un, .un, .un, .un]) ⟨fin⟩ := by
  unfold F__law_curve
  exact mf_u (S := S__law_curve) (sx := sx__law_curve) rfl rfl
theorem S__law_no_seen_cn : S__law_no_seen.cn = cnV := (add_cn S__law_curve 32 P__law_curve).trans S__law_curve_cn
theorem S__law_no_seen_sb : S__law_no_seen.sb = sb0 := (add_sb S__law_curve 32 P__law_curve).trans S__law_curve_sb
/-- _law_no_seen(tape) -/
def nm__law_no_seen : List Str := [Str.ofString "tape", Str.ofString "some"]
def ar__law_no_seen : List Str := [Str.ofString "tape"]
def sx__law_no_seen : Sx := (.seq (.set false 1 (.lst (.cons .non (.cons (.tup .nil) (.cons (.lst (.cons (.tup (.cons (.int 1) (.cons (.tt true) .nil))) .nil)) (.cons (.tup (.cons (.tup (.cons (.int 1) (.cons (.int 1) .nil))) .nil)) (.cons (.tup (.cons (.tup (.cons (.neg (.int 1)) (.cons (.tt true) .nil))) .nil)) (.cons (.tup (.cons (.tup (.cons (.int 1001) (.cons (.tt true) .nil))) .nil)) (.cons (.tup (.cons (.tup (.cons (.int 1) (.cons .non .nil))) .nil)) (.cons (.tup (.cons (.tup (.cons (.tt true) (.cons (.tt true) .nil))) .nil)) .nil)))))))))) (.seq (.set false 1 (.bin .add (.var 1) (.lst (.cons (.tup (.cons (.tup (.cons (.str (Str.ofString "1")) (.cons (.tt true) .nil))) .nil)) (.cons (.int 0) (.cons .dnew .nil)))))) (.seq (.ret (.call 23 (.cons (.var 0) (.cons (.bin .add (.var 1) (.lst (.cons (.bin .mul (.tup (.cons (.tup (.cons (.int 1) (.cons (.tt true) .nil))) .nil)) (.int 61)) (.cons (.tup (.cons .non .nil)) (.cons (.tup (.cons (.tup (.cons (.int 1) .nil)) .nil)) (.cons (.tup (.cons (.lst (.cons (.int 1) (.cons (.tt true) .nil))) .nil)) (.cons (.str (Str.ofString "seen")) .nil))))))) .nil)))) .nil)))
theorem sc__law_no_seen : FnScope nm__law_no_seen ar__law_no_seen (defScope (top 45)) := ⟨rfl, rfl, rfl, by decide +kernel, rfl, by decide +kernel, by decide +kernel⟩
theorem ck__law_no_seen : (chkS ⟨nm__law_no_seen, fnU 33, cnN, fnUp wlL 0, clN, flm false⟩ csN sx__law_no_seen).blk (defScope (top 45)) (defBody (top 45)) = true := by decide +kernel
noncomputable def P__law_no_seen : MF := mfOf S__law_no_seen nm__law_no_seen.length ar__law_no_seen.length sx__law_no_seen
@[irreducible] noncomputable def F__law_no_seen : List PV → M PV := P__law_no_seen.f
noncomputable def S__law_word : MSig := S__law_no_seen.add 33 P__law_no_seen
@[simp] theorem n__law_no_seen : S__law_no_seen.cn = cnV := S__law_no_seen_cn
@[simp] theorem q__law_no_seen_23 : (S__law_no_seen.F 23).f = F__law_any := by unfold F__law_any; rfl
theorem u__law_no_seen (a0 : PV) : F__law_no_seen [a0] = @bnd _ _ (evS S__law_no_seen (.seq (.set false 1 (.lst (.cons .non (.cons (.tup .nil) (.cons (.lst (.cons (.tup (.cons (.int 1) (.cons (.tt true) .nil))) .nil)) (.cons (.tup (.cons (.tup (.cons (.int 1) (.cons (.int 1) .nil))) .nil)) (.cons (.tup (.cons (.tup (.cons (.neg (.int 1)) (.cons (.tt true) .nil))) .nil)) (.cons (.tup (.cons (.tup (.cons (.int 1001) (.cons (.tt true) .nil))) .nil)) (.cons (.tup (.cons (.tup (.cons (.int 1) (.cons .non .nil))) .nil)) (.cons (.tup (.cons (.tup (.cons (.tt true) (.cons (.tt true) .nil))) .nil)) .nil)))))))))) (.seq (.set false 1 (.bin .add (.var 1) (.lst (.cons (.tup (.cons (.tup (.cons (.str (Str.ofString "1")) (.cons (.tt true) .nil))) .nil)) (.cons (.int 0) (.cons .dnew .nil)))))) (.seq (.ret (.call 23 (.cons (.var 0) (.cons (.bin .add (.var 1) (.lst (.cons (.bin .mul (.tup (.cons (.tup (.cons (.int 1) (.cons (.tt true) .nil))) .nil)) (.int 61)) (.cons (.tup (.cons .non .nil)) (.cons (.tup (.cons (.tup (.cons (.int 1) .nil)) .nil)) (.cons (.tup (.cons (.lst (.cons (.int 1) (.cons (.tt true) .nil))) .nil)) (.cons (.str (Str.ofString "seen")) .nil))))))) .nil)))) .nil))) [.fz a0, .un]) ⟨fin⟩ := by
  unfold F__law_no_seen
  exact mf_u (S := S__law_no_seen) (sx := sx__law_no_seen) rfl rfl
theorem S__law_word_cn : S__law_word.cn = cnV := (add_cn S__law_no_seen 33 P__law_no_seen).trans S__law_no_seen_cn
theorem S__law_word_sb : S__law_word.sb = sb0 := (add_sb S__law_no_seen 33 P__law_no_seen).trans S__law_no_seen_sb
/-- _law_word(asked_one) -/
def nm__law_word : List Str := [Str.ofString "asked_one", Str.ofString "found", Str.ofString "e", Str.ofString "flags", Str.ofString "tags"]
def ar__law_word : List Str := [Str.ofString "asked_one"]
def sx__law_word : Sx := (.seq (.set false 1 (.str (Str.ofString "let"))) (.seq (.tri (.thk 0) 0 2 (.seq (.set false 3 (.lst (.cons (.isx 2 (some 1)) (.cons (.isx 2 (some 2)) .nil)))) (.seq (.set false 4 (.lst (.cons (.str (Str.ofString "seen")) (.cons (.str (Str.ofString "time")) .nil)))) (.seq (.set false 1 (.ite (.and (.cmp .eq (.cnt (.var 3) (.tt true)) (.int 1)) (.one (.isx 2 none))) (.idx (.var 4) (.lix (.var 3) (.tt true))) (.str (Str.ofString "other")))) .nil)))) (.seq (.ret (.var 1)) .nil)))
theorem sc__law_word : FnScope nm__law_word ar__law_word (defScope (top 46)) := ⟨rfl, rfl, rfl, by decide +kernel, rfl, by decide +kernel, by decide +kernel⟩
theorem ck__law_word : (chkS ⟨nm__law_word, fnU 34, cnN, fnUp wlL 0, clN, fwd⟩ csN sx__law_word).blk (defScope (top 46)) (defBody (top 46)) = true := by decide +kernel
noncomputable def P__law_word : MW := mwOf S__law_word nm__law_word.length sx__law_word
@[irreducible] noncomputable def W__law_word : M PV → M PV := P__law_word.f
noncomputable def S__law_is_right : MSig := (S__law_word.add 34 (badF 1)).addW 0 P__law_word
@[simp] theorem n__law_word (m : M PV) : (S__law_word.tkd m).cn = cnV := S__law_word_cn
@[simp] theorem s__law_word : S__law_word.sb = sb0 := S__law_word_sb
theorem u__law_word (m : M PV) : W__law_word m = @bnd _ _ (evS (S__law_word.tkd m) (.seq (.set false 1 (.str (Str.ofString "let"))) (.seq (.tri (.thk 0) 0 2 (.seq (.set false 3 (.lst (.cons (.isx 2 (some 1)) (.cons (.isx 2 (some 2)) .nil)))) (.seq (.set false 4 (.lst (.cons (.str (Str.ofString "seen")) (.cons (.str (Str.ofString "time")) .nil)))) (.seq (.set false 1 (.ite (.and (.cmp .eq (.cnt (.var 3) (.tt true)) (.int 1)) (.one (.isx 2 none))) (.idx (.var 4) (.lix (.var 3) (.tt true))) (.str (Str.ofString "other")))) .nil)))) (.seq (.ret (.var 1)) .nil))) [.th, .un, .un, .un, .un]) ⟨fin⟩ := by
  unfold W__law_word
  rfl
theorem S__law_is_right_cn : S__law_is_right.cn = cnV := (addW_cn (S__law_word.add 34 (badF 1)) 0 P__law_word).trans ((add_cn S__law_word 34 (badF 1)).trans S__law_word_cn)
theorem S__law_is_right_sb : S__law_is_right.sb = sb0 := (addW_sb (S__law_word.add 34 (badF 1)) 0 P__law_word).trans ((add_sb S__law_word 34 (badF 1)).trans S__law_word_sb)
/-- _law_is_right(tape, seen) -/
def nm__law_is_right : List Str := [Str.ofString "tape", Str.ofString "seen", Str.ofString "due", Str.ofString "time", Str.ofString "half", Str.ofString "ended", Str.ofString "after_it", Str.ofString "told", Str.ofString "one", Str.ofString "flag"]
def ar__law_is_right : List Str := [Str.ofString "tape", Str.ofString "seen"]
def bd__law_is_right_0 : Sx := (.seq (.set false 6 (.comp (.tp (.cons (.nm 8) (.cons (.nm 7) .nil))) (.var 2) (.cmp .le (.var 8) (.var 3)) (.var 7) [8, 7])) (.seq (.ite (.cmp .ne (.blt .repr (.cons (.call 16 (.cons (.var 1) (.cons (.var 3) .nil))) .nil)) (.blt .repr (.cons (.ite (.cmp .gt (.blt .len (.cons (.var 6) .nil)) (.int 0)) (.idx (.var 6) (.neg (.int 1))) (.tup (.cons (.int 1) (.cons (.int 1) .nil)))) .nil))) (.seq (.ret (.tt false)) .nil) .nil) (.seq (.ite (.cmp .ne (.blt .repr (.cons (.lst (.cons (.call 17 (.cons (.var 1) (.cons (.var 3) .nil))) (.cons (.call 18 (.cons (.var 1) (.cons (.var 3) .nil))) .nil))) .nil)) (.blt .repr (.cons (.lst (.cons (.call 29 (.cons (.var 1) (.cons (.var 3) .nil))) (.cons (.call 30 (.cons (.var 1) (.cons (.var 3) .nil))) .nil))) .nil))) (.seq (.ret (.tt false)) .nil) .nil) .nil)))
def bd__law_is_right_1 : Sx := (.seq (.ite (.cmp .ne (.var 7) (.call 26 (.cons (.blt .len (.cons (.comp (.tp (.cons (.nm 8) (.cons (.nm 9) .nil))) (.var 5) (.cmp .gt (.var 8) (.var 3)) (.int 1) [8, 9]) .nil)) (.cons (.blt .len (.cons (.var 5) .nil)) .nil)))) (.seq (.ret (.tt false)) .nil) .nil) .nil)
def sx__law_is_right_s9 : Sx := (.seq (.ret (.tt true)) .nil)
def sx__law_is_right_s8 : Sx := (.seq (.for_ (.tp (.cons (.nm 3) (.cons (.nm 7) .nil))) (.call 14 (.cons (.var 5) .nil)) bd__law_is_right_1) sx__law_is_right_s9)
def sx__law_is_right_s7 : Sx := (.seq (.ite (.cmp .eq (.blt .len (.cons (.var 5) .nil)) (.int 0)) (.seq (.ret (.cmp .eq (.call 14 (.cons (.var 1) .nil)) (.tup .nil))) .nil) .nil) sx__law_is_right_s8)
def sx__law_is_right_s6 : Sx := (.seq (.ite (.cmp .ne (.blt .repr (.cons (.call 20 (.cons (.var 1) .nil)) .nil)) (.blt .repr (.cons (.ite (.cmp .gt (.blt .len (.cons (.var 5) .nil)) (.int 0)) (.var 5) .non) .nil))) (.seq (.ret (.tt false)) .nil) .nil) sx__law_is_right_s7)
def sx__law_is_right_s5 : Sx := (.seq (.set false 5 (.blt .tuple (.cons (.comp (.nm 8) (.var 1) (.idx (.var 8) (.int 1)) (.var 8) [8]) .nil))) sx__law_is_right_s6)
def sx__law_is_right_s4 : Sx := (.seq (.ite (.cmp .ne (.blt .repr (.cons (.call 19 (.cons (.var 1) .nil)) .nil)) (.blt .repr (.cons (.ite (.cmp .gt (.blt .len (.cons (.var 4) .nil)) (.int 0)) (.idx (.var 4) (.int 0)) .non) .nil))) (.seq (.ret (.tt false)) .nil) .nil) sx__law_is_right_s5)
def sx__law_is_right_s3 : Sx := (.seq (.set false 4 (.comp (.tp (.cons (.nm 8) (.cons (.nm 7) .nil))) (.var 2) (.cmp .le (.bin .mul (.int 2) (.idx (.var 7) (.int 0))) (.idx (.var 7) (.int 1))) (.var 8) [8, 7])) sx__law_is_right_s4)
def sx__law_is_right_s2 : Sx := (.seq (.for_ (.nm 3) (.tup (.cons (.call 22 (.cons (.var 0) (.cons (.int 32) .nil))) (.cons (.int 0) (.cons (.idx (.idx (.var 1) (.int 0)) (.int 0)) (.cons (.int 1000) .nil))))) bd__law_is_right_0) sx__law_is_right_s3)
def sx__law_is_right_s1 : Sx := (.seq (.ite (.or (.cmp .ne (.blt .repr (.cons (.call 14 (.cons (.var 1) .nil)) .nil)) (.blt .repr (.cons (.blt .tuple (.cons (.var 2) .nil)) .nil))) (.one (.cmp .ne (.call 14 (.cons (.blt .tuple (.cons (.call 24 (.cons (.var 0) (.cons (.blt .list (.cons (.var 1) .nil)) .nil))) .nil)) .nil)) (.blt .tuple (.cons (.var 2) .nil))))) (.seq (.ret (.tt false)) .nil) .nil) sx__law_is_right_s2)
def sx__law_is_right : Sx := (.seq (.set false 2 (.call 32 (.cons (.var 1) .nil))) sx__law_is_right_s1)
theorem sc__law_is_right : FnScope nm__law_is_right ar__law_is_right (defScope (top 47)) := ⟨rfl, rfl, rfl, by decide +kernel, rfl, by decide +kernel, by decide +kernel⟩
theorem ck__law_is_right : (chkS ⟨nm__law_is_right, fnU 35, cnN, fnUp wlL 1, clN, flm false⟩ csN sx__law_is_right).blk (defScope (top 47)) (defBody (top 47)) = true := by decide +kernel
noncomputable def P__law_is_right : MF := mfOf S__law_is_right nm__law_is_right.length ar__law_is_right.length sx__law_is_right
@[irreducible] noncomputable def F__law_is_right : List PV → M PV := P__law_is_right.f
noncomputable def S__law_word_of : MSig := S__law_is_right.add 35 P__law_is_right
@[simp] theorem n__law_is_right : S__law_is_right.cn = cnV := S__law_is_right_cn
@[simp] theorem q__law_is_right_14 : (S__law_is_right.F 14).f = F_curve := by unfold F_curve; rfl
@[simp] theorem q__law_is_right_16 : (S__law_is_right.F 16).f = F_survives := by unfold F_survives; rfl
@[simp] theorem q__law_is_right_17 : (S__law_is_right.F 17).f = F_at_risk := by unfold F_at_risk; rfl
@[simp] theorem q__law_is_right_18 : (S__law_is_right.F 18).f = F_ends_at := by unfold F_ends_at; rfl
@[simp] theorem q__law_is_right_19 : (S__law_is_right.F 19).f = F_half_time := by unfold F_half_time; rfl
@[simp] theorem q__law_is_right_20 : (S__law_is_right.F 20).f = F_without_lost := by unfold F_without_lost; rfl
@[simp] theorem q__law_is_right_22 : (S__law_is_right.F 22).f = F__law_pick := by unfold F__law_pick; rfl
@[simp] theorem q__law_is_right_24 : (S__law_is_right.F 24).f = F__law_mixed := by unfold F__law_mixed; rfl
@[simp] theorem q__law_is_right_26 : (S__law_is_right.F 26).f = F__law_over := by unfold F__law_over; rfl
@[simp] theorem q__law_is_right_29 : (S__law_is_right.F 29).f = F__law_risk := by unfold F__law_risk; rfl
@[simp] theorem q__law_is_right_30 : (S__law_is_right.F 30).f = F__law_ends := by unfold F__law_ends; rfl
@[simp] theorem q__law_is_right_32 : (S__law_is_right.F 32).f = F__law_curve := by unfold F__law_curve; rfl
theorem b__law_is_right_0 (ρ : Env') : evS S__law_is_right bd__law_is_right_0 ρ = evS S__law_is_right (.seq (.set false 6 (.comp (.tp (.cons (.nm 8) (.cons (.nm 7) .nil))) (.var 2) (.cmp .le (.var 8) (.var 3)) (.var 7) [8, 7])) (.seq (.ite (.cmp .ne (.blt .repr (.cons (.call 16 (.cons (.var 1) (.cons (.var 3) .nil))) .nil)) (.blt .repr (.cons (.ite (.cmp .gt (.blt .len (.cons (.var 6) .nil)) (.int 0)) (.idx (.var 6) (.neg (.int 1))) (.tup (.cons (.int 1) (.cons (.int 1) .nil)))) .nil))) (.seq (.ret (.tt false)) .nil) .nil) (.seq (.ite (.cmp .ne (.blt .repr (.cons (.lst (.cons (.call 17 (.cons (.var 1) (.cons (.var 3) .nil))) (.cons (.call 18 (.cons (.var 1) (.cons (.var 3) .nil))) .nil))) .nil)) (.blt .repr (.cons (.lst (.cons (.call 29 (.cons (.var 1) (.cons (.var 3) .nil))) (.cons (.call 30 (.cons (.var 1) (.cons (.var 3) .nil))) .nil))) .nil))) (.seq (.ret (.tt false)) .nil) .nil) .nil))) ρ := (rfl)
theorem b__law_is_right_1 (ρ : Env') : evS S__law_is_right bd__law_is_right_1 ρ = evS S__law_is_right (.seq (.ite (.cmp .ne (.var 7) (.call 26 (.cons (.blt .len (.cons (.comp (.tp (.cons (.nm 8) (.cons (.nm 9) .nil))) (.var 5) (.cmp .gt (.var 8) (.var 3)) (.int 1) [8, 9]) .nil)) (.cons (.blt .len (.cons (.var 5) .nil)) .nil)))) (.seq (.ret (.tt false)) .nil) .nil) .nil) ρ := (rfl)
theorem b__law_is_right_s9 (ρ : Env') : evS S__law_is_right sx__law_is_right_s9 ρ = evS S__law_is_right (.seq (.ret (.tt true)) .nil) ρ := (rfl)
theorem b__law_is_right_s8 (ρ : Env') : evS S__law_is_right sx__law_is_right_s8 ρ = evS S__law_is_right (.seq (.for_ (.tp (.cons (.nm 3) (.cons (.nm 7) .nil))) (.call 14 (.cons (.var 5) .nil)) bd__law_is_right_1) sx__law_is_right_s9) ρ := (rfl)
theorem b__law_is_right_s7 (ρ : Env') : evS S__law_is_right sx__law_is_right_s7 ρ = evS S__law_is_right (.seq (.ite (.cmp .eq (.blt .len (.cons (.var 5) .nil)) (.int 0)) (.seq (.ret (.cmp .eq (.call 14 (.cons (.var 1) .nil)) (.tup .nil))) .nil) .nil) sx__law_is_right_s8) ρ := (rfl)
theorem b__law_is_right_s6 (ρ : Env') : evS S__law_is_right sx__law_is_right_s6 ρ = evS S__law_is_right (.seq (.ite (.cmp .ne (.blt .repr (.cons (.call 20 (.cons (.var 1) .nil)) .nil)) (.blt .repr (.cons (.ite (.cmp .gt (.blt .len (.cons (.var 5) .nil)) (.int 0)) (.var 5) .non) .nil))) (.seq (.ret (.tt false)) .nil) .nil) sx__law_is_right_s7) ρ := (rfl)
theorem b__law_is_right_s5 (ρ : Env') : evS S__law_is_right sx__law_is_right_s5 ρ = evS S__law_is_right (.seq (.set false 5 (.blt .tuple (.cons (.comp (.nm 8) (.var 1) (.idx (.var 8) (.int 1)) (.var 8) [8]) .nil))) sx__law_is_right_s6) ρ := (rfl)
theorem b__law_is_right_s4 (ρ : Env') : evS S__law_is_right sx__law_is_right_s4 ρ = evS S__law_is_right (.seq (.ite (.cmp .ne (.blt .repr (.cons (.call 19 (.cons (.var 1) .nil)) .nil)) (.blt .repr (.cons (.ite (.cmp .gt (.blt .len (.cons (.var 4) .nil)) (.int 0)) (.idx (.var 4) (.int 0)) .non) .nil))) (.seq (.ret (.tt false)) .nil) .nil) sx__law_is_right_s5) ρ := (rfl)
theorem b__law_is_right_s3 (ρ : Env') : evS S__law_is_right sx__law_is_right_s3 ρ = evS S__law_is_right (.seq (.set false 4 (.comp (.tp (.cons (.nm 8) (.cons (.nm 7) .nil))) (.var 2) (.cmp .le (.bin .mul (.int 2) (.idx (.var 7) (.int 0))) (.idx (.var 7) (.int 1))) (.var 8) [8, 7])) sx__law_is_right_s4) ρ := (rfl)
theorem b__law_is_right_s2 (ρ : Env') : evS S__law_is_right sx__law_is_right_s2 ρ = evS S__law_is_right (.seq (.for_ (.nm 3) (.tup (.cons (.call 22 (.cons (.var 0) (.cons (.int 32) .nil))) (.cons (.int 0) (.cons (.idx (.idx (.var 1) (.int 0)) (.int 0)) (.cons (.int 1000) .nil))))) bd__law_is_right_0) sx__law_is_right_s3) ρ := (rfl)
theorem b__law_is_right_s1 (ρ : Env') : evS S__law_is_right sx__law_is_right_s1 ρ = evS S__law_is_right (.seq (.ite (.or (.cmp .ne (.blt .repr (.cons (.call 14 (.cons (.var 1) .nil)) .nil)) (.blt .repr (.cons (.blt .tuple (.cons (.var 2) .nil)) .nil))) (.one (.cmp .ne (.call 14 (.cons (.blt .tuple (.cons (.call 24 (.cons (.var 0) (.cons (.blt .list (.cons (.var 1) .nil)) .nil))) .nil)) .nil)) (.blt .tuple (.cons (.var 2) .nil))))) (.seq (.ret (.tt false)) .nil) .nil) sx__law_is_right_s2) ρ := (rfl)
theorem u__law_is_right (a0 a1 : PV) : F__law_is_right [a0, a1] = @bnd _ _ (evS S__law_is_right (.seq (.set false 2 (.call 32 (.cons (.var 1) .nil))) sx__law_is_right_s1) [.fz a0, .fz a1, .un, .un, .un, .un, .un, .un, .un, .un]) ⟨fin⟩ := by
  unfold F__law_is_right
  exact mf_u (S := S__law_is_right) (sx := sx__law_is_right) rfl rfl
theorem S__law_word_of_cn : S__law_word_of.cn = cnV := (add_cn S__law_is_right 35 P__law_is_right).trans S__law_is_right_cn
theorem S__law_word_of_sb : S__law_word_of.sb = sb0 := (add_sb S__law_is_right 35 P__law_is_right).trans S__law_is_right_sb
/-- _law_word_of(asked_one, none) -/
def nm__law_word_of : List Str := [Str.ofString "asked_one", Str.ofString "none"]
def ar__law_word_of : List Str := [Str.ofString "asked_one", Str.ofString "none"]
def sx__law_word_of : Sx := (.seq (.ret (.lam 0 (.callv 0 36 (.cons (.var 1) .nil)))) .nil)
theorem sc__law_word_of : FnScope nm__law_word_of ar__law_word_of (defScope (top 49)) := ⟨rfl, rfl, rfl, by decide +kernel, rfl, by decide +kernel, by decide +kernel⟩
theorem ck__law_word_of : (chkS ⟨nm__law_word_of, fnU 36, cnN, fnUp wlL 1, clN, flm true⟩ csN sx__law_word_of).blk (defScope (top 49)) (defBody (top 49)) = true := by decide +kernel
noncomputable def P__law_word_of : MF := mfOf S__law_word_of nm__law_word_of.length ar__law_word_of.length sx__law_word_of
@[irreducible] noncomputable def F__law_word_of : List PV → M PV := P__law_word_of.f
noncomputable def S__law_word_by : MSig := S__law_word_of.add 36 P__law_word_of
@[simp] theorem n__law_word_of : S__law_word_of.cn = cnV := S__law_word_of_cn
@[simp] theorem ql__law_word_of_0 : (S__law_word_of.wd 0).f = W__law_word := by unfold W__law_word; rfl
@[simp] theorem q__law_word_of_14 : (S__law_word_of.F 14).f = F_curve := by unfold F_curve; rfl
@[simp] theorem q__law_word_of_16 : (S__law_word_of.F 16).f = F_survives := by unfold F_survives; rfl
@[simp] theorem q__law_word_of_17 : (S__law_word_of.F 17).f = F_at_risk := by unfold F_at_risk; rfl
@[simp] theorem q__law_word_of_18 : (S__law_word_of.F 18).f = F_ends_at := by unfold F_ends_at; rfl
@[simp] theorem q__law_word_of_19 : (S__law_word_of.F 19).f = F_half_time := by unfold F_half_time; rfl
@[simp] theorem q__law_word_of_20 : (S__law_word_of.F 20).f = F_without_lost := by unfold F_without_lost; rfl
theorem u__law_word_of (a0 a1 : PV) : F__law_word_of [a0, a1] = @bnd _ _ (evS S__law_word_of (.seq (.ret (.lam 0 (.callv 0 36 (.cons (.var 1) .nil)))) .nil) [.fz a0, .fz a1]) ⟨fin⟩ := by
  unfold F__law_word_of
  exact mf_u (S := S__law_word_of) (sx := sx__law_word_of) rfl rfl
theorem S__law_word_by_cn : S__law_word_by.cn = cnV := (add_cn S__law_word_of 36 P__law_word_of).trans S__law_word_of_cn
theorem S__law_word_by_sb : S__law_word_by.sb = sb0 := (add_sb S__law_word_of 36 P__law_word_of).trans S__law_word_of_sb
/-- _law_word_by(asked_one, seen, time) -/
def nm__law_word_by : List Str := [Str.ofString "asked_one", Str.ofString "seen", Str.ofString "time"]
def ar__law_word_by : List Str := [Str.ofString "asked_one", Str.ofString "seen", Str.ofString "time"]
def sx__law_word_by : Sx := (.seq (.ret (.lam 0 (.callv 0 37 (.cons (.var 1) (.cons (.var 2) .nil))))) .nil)
theorem sc__law_word_by : FnScope nm__law_word_by ar__law_word_by (defScope (top 50)) := ⟨rfl, rfl, rfl, by decide +kernel, rfl, by decide +kernel, by decide +kernel⟩
theorem ck__law_word_by : (chkS ⟨nm__law_word_by, fnU 37, cnN, fnUp wlL 1, clN, flm true⟩ csN sx__law_word_by).blk (defScope (top 50)) (defBody (top 50)) = true := by decide +kernel
noncomputable def P__law_word_by : MF := mfOf S__law_word_by nm__law_word_by.length ar__law_word_by.length sx__law_word_by
@[irreducible] noncomputable def F__law_word_by : List PV → M PV := P__law_word_by.f
noncomputable def S__law_is_refused : MSig := S__law_word_by.add 37 P__law_word_by
@[simp] theorem n__law_word_by : S__law_word_by.cn = cnV := S__law_word_by_cn
@[simp] theorem ql__law_word_by_0 : (S__law_word_by.wd 0).f = W__law_word := by unfold W__law_word; rfl
@[simp] theorem q__law_word_by_14 : (S__law_word_by.F 14).f = F_curve := by unfold F_curve; rfl
@[simp] theorem q__law_word_by_16 : (S__law_word_by.F 16).f = F_survives := by unfold F_survives; rfl
@[simp] theorem q__law_word_by_17 : (S__law_word_by.F 17).f = F_at_risk := by unfold F_at_risk; rfl
@[simp] theorem q__law_word_by_18 : (S__law_word_by.F 18).f = F_ends_at := by unfold F_ends_at; rfl
@[simp] theorem q__law_word_by_19 : (S__law_word_by.F 19).f = F_half_time := by unfold F_half_time; rfl
@[simp] theorem q__law_word_by_20 : (S__law_word_by.F 20).f = F_without_lost := by unfold F_without_lost; rfl
theorem u__law_word_by (a0 a1 a2 : PV) : F__law_word_by [a0, a1, a2] = @bnd _ _ (evS S__law_word_by (.seq (.ret (.lam 0 (.callv 0 37 (.cons (.var 1) (.cons (.var 2) .nil))))) .nil) [.fz a0, .fz a1, .fz a2]) ⟨fin⟩ := by
  unfold F__law_word_by
  exact mf_u (S := S__law_word_by) (sx := sx__law_word_by) rfl rfl
theorem S__law_is_refused_cn : S__law_is_refused.cn = cnV := (add_cn S__law_word_by 37 P__law_word_by).trans S__law_word_by_cn
theorem S__law_is_refused_sb : S__law_is_refused.sb = sb0 := (add_sb S__law_word_by 37 P__law_word_by).trans S__law_word_by_sb
/-- _law_is_refused(tape, seen) -/
def nm__law_is_refused : List Str := [Str.ofString "tape", Str.ofString "seen", Str.ofString "words", Str.ofString "asked_one", Str.ofString "none", Str.ofString "bad"]
def ar__law_is_refused : List Str := [Str.ofString "tape", Str.ofString "seen"]
def bd__law_is_refused_0 : Sx := (.seq (.app 2 (.call 36 (.cons (.var 3) (.cons (.var 4) .nil)))) .nil)
def bd__law_is_refused_1 : Sx := (.seq (.set true 2 (.bin .add (.own 2) (.lst (.cons (.call 37 (.cons (.var 3) (.cons (.var 4) (.cons (.var 5) .nil)))) (.cons (.call 37 (.cons (.var 3) (.cons (.var 1) (.cons (.var 5) .nil)))) .nil))))) .nil)
def sx__law_is_refused : Sx := (.seq (.par false 4 (.call 33 (.cons (.var 0) .nil)) false 5 (.call 23 (.cons (.var 0) (.cons (.lst (.cons (.neg (.int 1)) (.cons .non (.cons (.tt true) (.cons (.str (Str.ofString "1")) (.cons (.tup (.cons (.int 1) .nil)) (.cons (.lst (.cons (.int 1) .nil)) (.cons .dnew .nil)))))))) .nil)))) (.seq (.set true 2 (.lst .nil)) (.seq (.for_ (.nm 3) (.tup (.cons (.fnv 14) (.cons (.fnv 19) (.cons (.fnv 20) .nil)))) bd__law_is_refused_0) (.seq (.for_ (.nm 3) (.tup (.cons (.fnv 16) (.cons (.fnv 17) (.cons (.fnv 18) .nil)))) bd__law_is_refused_1) (.seq (.ret (.cmp .eq (.own 2) (.bin .add (.bin .mul (.lst (.cons (.str (Str.ofString "seen")) .nil)) (.int 3)) (.bin .mul (.lst (.cons (.str (Str.ofString "seen")) (.cons (.str (Str.ofString "time")) .nil))) (.int 3))))) .nil)))))
theorem sc__law_is_refused : FnScope nm__law_is_refused ar__law_is_refused (defScope (top 48)) := ⟨rfl, rfl, rfl, by decide +kernel, rfl, by decide +kernel, by decide +kernel⟩
theorem ck__law_is_refused : (chkS ⟨nm__law_is_refused, fnU 38, cnN, fnUp wlL 1, clN, flm false⟩ csN sx__law_is_refused).blk (defScope (top 48)) (defBody (top 48)) = true := by decide +kernel
noncomputable def P__law_is_refused : MF := mfOf S__law_is_refused nm__law_is_refused.length ar__law_is_refused.length sx__law_is_refused
@[irreducible] noncomputable def F__law_is_refused : List PV → M PV := P__law_is_refused.f
noncomputable def S_law : MSig := S__law_is_refused.add 38 P__law_is_refused
@[simp] theorem n__law_is_refused : S__law_is_refused.cn = cnV := S__law_is_refused_cn
@[simp] theorem q__law_is_refused_14 : (S__law_is_refused.F 14).f = F_curve := by unfold F_curve; rfl
@[simp] theorem q__law_is_refused_16 : (S__law_is_refused.F 16).f = F_survives := by unfold F_survives; rfl
@[simp] theorem q__law_is_refused_17 : (S__law_is_refused.F 17).f = F_at_risk := by unfold F_at_risk; rfl
@[simp] theorem q__law_is_refused_18 : (S__law_is_refused.F 18).f = F_ends_at := by unfold F_ends_at; rfl
@[simp] theorem q__law_is_refused_19 : (S__law_is_refused.F 19).f = F_half_time := by unfold F_half_time; rfl
@[simp] theorem q__law_is_refused_20 : (S__law_is_refused.F 20).f = F_without_lost := by unfold F_without_lost; rfl
@[simp] theorem q__law_is_refused_23 : (S__law_is_refused.F 23).f = F__law_any := by unfold F__law_any; rfl
@[simp] theorem q__law_is_refused_33 : (S__law_is_refused.F 33).f = F__law_no_seen := by unfold F__law_no_seen; rfl
@[simp] theorem q__law_is_refused_36 : (S__law_is_refused.F 36).f = F__law_word_of := by unfold F__law_word_of; rfl
@[simp] theorem q__law_is_refused_37 : (S__law_is_refused.F 37).f = F__law_word_by := by unfold F__law_word_by; rfl
theorem b__law_is_refused_0 (ρ : Env') : evS S__law_is_refused bd__law_is_refused_0 ρ = evS S__law_is_refused (.seq (.app 2 (.call 36 (.cons (.var 3) (.cons (.var 4) .nil)))) .nil) ρ := (rfl)
theorem b__law_is_refused_1 (ρ : Env') : evS S__law_is_refused bd__law_is_refused_1 ρ = evS S__law_is_refused (.seq (.set true 2 (.bin .add (.own 2) (.lst (.cons (.call 37 (.cons (.var 3) (.cons (.var 4) (.cons (.var 5) .nil)))) (.cons (.call 37 (.cons (.var 3) (.cons (.var 1) (.cons (.var 5) .nil)))) .nil))))) .nil) ρ := (rfl)
theorem u__law_is_refused (a0 a1 : PV) : F__law_is_refused [a0, a1] = @bnd _ _ (evS S__law_is_refused (.seq (.par false 4 (.call 33 (.cons (.var 0) .nil)) false 5 (.call 23 (.cons (.var 0) (.cons (.lst (.cons (.neg (.int 1)) (.cons .non (.cons (.tt true) (.cons (.str (Str.ofString "1")) (.cons (.tup (.cons (.int 1) .nil)) (.cons (.lst (.cons (.int 1) .nil)) (.cons .dnew .nil)))))))) .nil)))) (.seq (.set true 2 (.lst .nil)) (.seq (.for_ (.nm 3) (.tup (.cons (.fnv 14) (.cons (.fnv 19) (.cons (.fnv 20) .nil)))) bd__law_is_refused_0) (.seq (.for_ (.nm 3) (.tup (.cons (.fnv 16) (.cons (.fnv 17) (.cons (.fnv 18) .nil)))) bd__law_is_refused_1) (.seq (.ret (.cmp .eq (.own 2) (.bin .add (.bin .mul (.lst (.cons (.str (Str.ofString "seen")) .nil)) (.int 3)) (.bin .mul (.lst (.cons (.str (Str.ofString "seen")) (.cons (.str (Str.ofString "time")) .nil))) (.int 3))))) .nil))))) [.fz a0, .fz a1, .un, .un, .un, .un]) ⟨fin⟩ := by
  unfold F__law_is_refused
  exact mf_u (S := S__law_is_refused) (sx := sx__law_is_refused) rfl rfl
theorem S_law_cn : S_law.cn = cnV := (add_cn S__law_is_refused 38 P__law_is_refused).trans S__law_is_refused_cn
theorem S_law_sb : S_law.sb = sb0 := (add_sb S__law_is_refused 38 P__law_is_refused).trans S__law_is_refused_sb
/-- law(script) -/
def nm_law : List Str := [Str.ofString "script", Str.ofString "tape", Str.ofString "seen", Str.ofString "told", Str.ofString "step"]
def ar_law : List Str := [Str.ofString "script"]
def bd_law_0 : Sx := (.seq (.set false 2 (.call 28 (.cons (.var 1) .nil))) (.seq (.ite (.or (.not (.call 35 (.cons (.var 1) (.cons (.var 2) .nil)))) (.one (.not (.call 38 (.cons (.var 1) (.cons (.var 2) .nil)))))) (.seq (.ret (.tt false)) .nil) .nil) .nil))
def sx_law_s5 : Sx := (.seq (.ret (.tt true)) .nil)
def sx_law_s4 : Sx := (.seq (.for_ (.nm 4) (.rng1 (.int 6)) bd_law_0) sx_law_s5)
def sx_law_s3 : Sx := (.seq (.ite (.cmp .ne (.var 3) (.lst (.cons (.tup (.cons (.tup (.cons (.int 2) (.cons (.tup (.cons (.int 2) (.cons (.int 3) .nil))) .nil))) (.cons (.tup (.cons (.int 4) (.cons (.tup (.cons (.int 0) (.cons (.int 1) .nil))) .nil))) .nil))) (.cons (.tup (.cons (.int 2) (.cons (.int 3) .nil))) (.cons (.tup (.cons (.int 1) (.cons (.int 1) .nil))) (.cons (.int 2) (.cons (.int 0) (.cons (.int 4) .nil)))))))) (.seq (.ret (.tt false)) .nil) .nil) sx_law_s4)
def sx_law_s2 : Sx := (.seq (.set false 3 (.lst (.cons (.call 14 (.cons (.var 2) .nil)) (.cons (.call 16 (.cons (.var 2) (.cons (.int 3) .nil))) (.cons (.call 16 (.cons (.var 2) (.cons (.int 1) .nil))) (.cons (.call 17 (.cons (.var 2) (.cons (.int 3) .nil))) (.cons (.call 18 (.cons (.var 2) (.cons (.int 3) .nil))) (.cons (.call 19 (.cons (.var 2) .nil)) .nil)))))))) sx_law_s3)
def sx_law_s1 : Sx := (.seq (.set false 2 (.tup (.cons (.tup (.cons (.int 2) (.cons (.tt true) .nil))) (.cons (.tup (.cons (.int 3) (.cons (.tt false) .nil))) (.cons (.tup (.cons (.int 4) (.cons (.tt true) .nil))) .nil))))) sx_law_s2)
def sx_law : Sx := (.seq (.set false 1 (.call 21 (.cons (.var 0) .nil))) sx_law_s1)
theorem sc_law : FnScope nm_law ar_law (defScope (top 51)) := ⟨rfl, rfl, rfl, by decide +kernel, rfl, by decide +kernel, by decide +kernel⟩
theorem ck_law : (chkS ⟨nm_law, fnU 39, cnN, fnUp wlL 1, clN, flm false⟩ csN sx_law).blk (defScope (top 51)) (defBody (top 51)) = true := by decide +kernel
noncomputable def P_law : MF := mfOf S_law nm_law.length ar_law.length sx_law
@[irreducible] noncomputable def F_law : List PV → M PV := P_law.f
noncomputable def S_end : MSig := S_law.add 39 P_law
@[simp] theorem n_law : S_law.cn = cnV := S_law_cn
@[simp] theorem q_law_14 : (S_law.F 14).f = F_curve := by unfold F_curve; rfl
@[simp] theorem q_law_16 : (S_law.F 16).f = F_survives := by unfold F_survives; rfl
@[simp] theorem q_law_17 : (S_law.F 17).f = F_at_risk := by unfold F_at_risk; rfl
@[simp] theorem q_law_18 : (S_law.F 18).f = F_ends_at := by unfold F_ends_at; rfl
@[simp] theorem q_law_19 : (S_law.F 19).f = F_half_time := by unfold F_half_time; rfl
@[simp] theorem q_law_21 : (S_law.F 21).f = F__law_tape := by unfold F__law_tape; rfl
@[simp] theorem q_law_28 : (S_law.F 28).f = F__law_seen := by unfold F__law_seen; rfl
@[simp] theorem q_law_35 : (S_law.F 35).f = F__law_is_right := by unfold F__law_is_right; rfl
@[simp] theorem q_law_38 : (S_law.F 38).f = F__law_is_refused := by unfold F__law_is_refused; rfl
theorem b_law_0 (ρ : Env') : evS S_law bd_law_0 ρ = evS S_law (.seq (.set false 2 (.call 28 (.cons (.var 1) .nil))) (.seq (.ite (.or (.not (.call 35 (.cons (.var 1) (.cons (.var 2) .nil)))) (.one (.not (.call 38 (.cons (.var 1) (.cons (.var 2) .nil)))))) (.seq (.ret (.tt false)) .nil) .nil) .nil)) ρ := (rfl)
theorem b_law_s5 (ρ : Env') : evS S_law sx_law_s5 ρ = evS S_law (.seq (.ret (.tt true)) .nil) ρ := (rfl)
theorem b_law_s4 (ρ : Env') : evS S_law sx_law_s4 ρ = evS S_law (.seq (.for_ (.nm 4) (.rng1 (.int 6)) bd_law_0) sx_law_s5) ρ := (rfl)
theorem b_law_s3 (ρ : Env') : evS S_law sx_law_s3 ρ = evS S_law (.seq (.ite (.cmp .ne (.var 3) (.lst (.cons (.tup (.cons (.tup (.cons (.int 2) (.cons (.tup (.cons (.int 2) (.cons (.int 3) .nil))) .nil))) (.cons (.tup (.cons (.int 4) (.cons (.tup (.cons (.int 0) (.cons (.int 1) .nil))) .nil))) .nil))) (.cons (.tup (.cons (.int 2) (.cons (.int 3) .nil))) (.cons (.tup (.cons (.int 1) (.cons (.int 1) .nil))) (.cons (.int 2) (.cons (.int 0) (.cons (.int 4) .nil)))))))) (.seq (.ret (.tt false)) .nil) .nil) sx_law_s4) ρ := (rfl)
theorem b_law_s2 (ρ : Env') : evS S_law sx_law_s2 ρ = evS S_law (.seq (.set false 3 (.lst (.cons (.call 14 (.cons (.var 2) .nil)) (.cons (.call 16 (.cons (.var 2) (.cons (.int 3) .nil))) (.cons (.call 16 (.cons (.var 2) (.cons (.int 1) .nil))) (.cons (.call 17 (.cons (.var 2) (.cons (.int 3) .nil))) (.cons (.call 18 (.cons (.var 2) (.cons (.int 3) .nil))) (.cons (.call 19 (.cons (.var 2) .nil)) .nil)))))))) sx_law_s3) ρ := (rfl)
theorem b_law_s1 (ρ : Env') : evS S_law sx_law_s1 ρ = evS S_law (.seq (.set false 2 (.tup (.cons (.tup (.cons (.int 2) (.cons (.tt true) .nil))) (.cons (.tup (.cons (.int 3) (.cons (.tt false) .nil))) (.cons (.tup (.cons (.int 4) (.cons (.tt true) .nil))) .nil))))) sx_law_s2) ρ := (rfl)
theorem u_law (a0 : PV) : F_law [a0] = @bnd _ _ (evS S_law (.seq (.set false 1 (.call 21 (.cons (.var 0) .nil))) sx_law_s1) [.fz a0, .un, .un, .un, .un]) ⟨fin⟩ := by
  unfold F_law
  exact mf_u (S := S_law) (sx := sx_law) rfl rfl
theorem S_end_cn : S_end.cn = cnV := (add_cn S_law 39 P_law).trans S_law_cn
theorem S_end_sb : S_end.sb = sb0 := (add_sb S_law 39 P_law).trans S_law_sb
end Lk20

set_option maxHeartbeats 1000000
namespace Lk20
open PySem PySem.Spec PyProof.Rows L2 Rk M
@[simp] theorem is_integer_int (i : Int) : F_is_integer [.int i] = ret (.bl true) := by
  simp [u_is_integer]
@[simp] theorem is_integer_bl (b : Bool) : F_is_integer [.bl b] = ret (.bl false) := by
  simp [u_is_integer]
@[simp] theorem is_integer_non : F_is_integer [.non] = ret (.bl false) := by
  simp [u_is_integer]
@[simp] theorem is_integer_str (s : Str) : F_is_integer [.str s] = ret (.bl false) := by
  simp [u_is_integer]
@[simp] theorem is_integer_tup (xs : List PV) : F_is_integer [.tup xs] = ret (.bl false) := by
  simp [u_is_integer]
@[simp] theorem is_integer_lst (xs : List PV) : F_is_integer [.lst xs] = ret (.bl false) := by
  simp [u_is_integer]
@[simp] theorem is_integer_dct (xs : List (Key × PV)) : F_is_integer [.dct xs] = ret (.bl false) := by
  simp [u_is_integer]
theorem is_within_int (i l m : Int) : F_is_within [.int i, .int l, .int m] = ret (.bl (decide (l ≤ i ∧ i ≤ m))) := by
  simp [u_is_within]
@[simp] theorem is_within_bl (b : Bool) (l m : PV) : F_is_within [.bl b, l, m] = ret (.bl false) := by
  simp [u_is_within]
@[simp] theorem is_within_non (l m : PV) : F_is_within [.non, l, m] = ret (.bl false) := by
  simp [u_is_within]
@[simp] theorem is_within_str (s : Str) (l m : PV) : F_is_within [.str s, l, m] = ret (.bl false) := by
  simp [u_is_within]
@[simp] theorem is_within_tup (s : List PV) (l m : PV) : F_is_within [.tup s, l, m] = ret (.bl false) := by
  simp [u_is_within]
@[simp] theorem is_within_lst (s : List PV) (l m : PV) : F_is_within [.lst s, l, m] = ret (.bl false) := by
  simp [u_is_within]
@[simp] theorem is_within_dct (s : List (Key × PV)) (l m : PV) : F_is_within [.dct s, l, m] = ret (.bl false) := by
  simp [u_is_within]
@[simp] theorem is_tuple_of_t (xs : List PV) (m : Int) : F_is_tuple_of [.tup xs, .int m] = ret (.bl (decide ((xs.length : Int) = m))) := by
  simp [u_is_tuple_of]
@[simp] theorem is_tuple_of_int (x m : Int) : F_is_tuple_of [.int x, .int m] = ret (.bl false) := by
  simp [u_is_tuple_of]
@[simp] theorem is_tuple_of_bl (x : Bool) (m : Int) : F_is_tuple_of [.bl x, .int m] = ret (.bl false) := by
  simp [u_is_tuple_of]
@[simp] theorem is_tuple_of_non (m : Int) : F_is_tuple_of [.non, .int m] = ret (.bl false) := by
  simp [u_is_tuple_of]
@[simp] theorem is_tuple_of_str (x : Str) (m : Int) : F_is_tuple_of [.str x, .int m] = ret (.bl false) := by
  simp [u_is_tuple_of]
@[simp] theorem is_tuple_of_lst (xs : List PV) (m : Int) : F_is_tuple_of [.lst xs, .int m] = ret (.bl false) := by
  simp [u_is_tuple_of]
@[simp] theorem is_tuple_of_dct (xs : List (Key × PV)) (m : Int) : F_is_tuple_of [.dct xs, .int m] = ret (.bl false) := by
  simp [u_is_tuple_of]
@[simp] theorem is_tuple_of_fr (q : Rat) (m : Int) : F_is_tuple_of [fr q, .int m] = ret (.bl (decide (2 = m))) := by
  simp [fr]
theorem common_part_i {k : Nat} {a b : Int} (ha : Sz k a) (hb : Sz k b) (hk : k ≤ 9000) (k0 : 0 < k) : F_common_part [.int a, .int b] = ret (.int (Int.gcd a b)) := by
  obtain ⟨n, e⟩ := fuel_sz hb (by omega)
  have h := gcd_loop (S := S_common_part) hk k0 fuel a.natAbs b.natAbs (by omega) ha hb
  simp [u_common_part]
  rw [show bd_common_part_0 = gcdBody from rfl, h]
  simp [Int.gcd]
theorem raw_made_i {k : Nat} {a b : Int} (ha : Sz k a) (hb : Sz k b) (h : b ≠ 0) (hk : k ≤ 9000) (k0 : 0 < k) : F_raw_made [.int a, .int b] = ret (fr (Rat.divInt a b)) := by
  obtain ⟨h1, h2⟩ := made_ok (a := a) hb h hk k0
  simp [u_raw_made, common_part_i ha hb hk k0]
  generalize hg : (if 0 < b then (Int.gcd a b : Int) else -(Int.gcd a b : Int)) = g at h1 h2
  simp [h1, h2, fr]
  exact ⟨by rw [← hg, made_num h], by rw [← hg, made_den h]⟩
theorem raw_times_fr {p q : Rat} (h : bw p + bw q ≤ 8000) : F_raw_times [fr p, fr q] = ret (fr (p * q)) := by
  obtain ⟨m1, m2, m3, m4⟩ := okp h
  have b0 := bw_pos p
  simp [u_raw_times, m3, m2, raw_made_i (sz_nn p q) (sz_dd p q) (mden_ne p q) (by omega) (by omega), ← mul_eq]
theorem any_w {a c : Addr} {xs : List PV} {Q : PV → Prop} {E : Exn → Prop} (h0 : xs ≠ []) (hl : xs.length ≤ 1000000) (h : ∀ x, x ∈ xs → Q x) : (F__law_any [.tok a c, .lst xs]).wp Q E := by
  have p : 0 < xs.length := List.length_pos_iff.mpr h0
  simp [u__law_any, u__law_pick]
  refine ⟨by omega, by omega, fun r r0 r1 => ?_⟩
  obtain ⟨r, rfl⟩ := Int.eq_ofNat_of_zero_le r0
  have hr : r < xs.length := by omega
  rw [atI_get hr]
  simp
  exact h _ (List.getElem_mem hr)
theorem shared_loop : ∀ (n a b : Nat), b < n → whlL S__law_shared (.cmp .gt (.var 1) (.int 0)) bd__law_shared_0 n [.fz (.int a), .fz (.int b)] = ret (.nx [.fz (.int (Nat.gcd a b)), .fz (.int 0)])
  | 0, a, b, h => by omega
  | n + 1, a, b, h => by
    rw [whl_succ]
    by_cases z : b = 0
    · subst z
      simp
    · have p : 0 < b := by omega
      have lt : a % b < b := Nat.mod_lt _ p
      have e : (a : Int).fmod b = ((a % b : Nat) : Int) := by
        rw [Int.fmod_eq_emod_of_nonneg _ (by omega)]
        simp
      simp [z, p, b__law_shared_0]
      rw [e, shared_loop n b (a % b) (by omega)]
      rw [show Nat.gcd b (a % b) = Nat.gcd a b by rw [Nat.gcd_comm a b, Nat.gcd_rec b a]; rw [Nat.gcd_comm]]
theorem lover_i {k : Nat} {a b : Int} (hb : Sz k b) (h : 0 < b) (hk : k ≤ 9000) (k0 : 0 < k) : F__law_over [.int a, .int b] = ret (fr (Rat.divInt a b)) := by
  obtain ⟨n, e⟩ := fuel_sz hb (by omega)
  have eb : ((b.natAbs : Nat) : Int) = b := by omega
  have hl := shared_loop fuel a.natAbs b.natAbs (by omega)
  have hs : F__law_shared [.int (a.natAbs : Int), .int b] = ret (.int (Int.gcd a b)) := by
    rw [← eb]
    simp [u__law_shared]
    rw [hl]
    simp [Int.gcd]
  have g0 : Int.gcd a b ≠ 0 := gcd_ne (by omega)
  have g1 := (gcd_sz (a := a) hb (by omega)).log2 hk k0
  simp at g1
  have hbn : b ≠ 0 := by omega
  simp [u__law_over, hs, g0, g1, fr]
  rw [Int.fdiv_eq_ediv_of_nonneg _ (by omega), Int.fdiv_eq_ediv_of_nonneg _ (by omega), Rat.num_divInt, Rat.den_divInt, if_neg hbn, Int.gcd_comm b a, Int.sign_eq_one_of_pos h, Int.one_mul]
  refine ⟨rfl, ?_⟩
  rw [Int.natCast_ediv, eb]
end Lk20

set_option maxHeartbeats 1000000
namespace Rk
open PySem PySem.Spec PyProof.Rows L2 M
/-! ### rows of fractions -/
def tpM (rs : List (List Rat)) : PV := .tup (rs.map tpF)
def lsM (rs : List (List Rat)) : PV := .lst (rs.map tpF)
@[simp] theorem items_tpM (ts : List (List Rat)) : itemsM (tpM ts) = ret (ts.map tpF) := (rfl)
@[simp] theorem items_lsM (ts : List (List Rat)) : itemsM (lsM ts) = ret (ts.map tpF) := (rfl)
@[simp] theorem len_tpM (ts : List (List Rat)) : bltM .len [tpM ts] = ret (.int ts.length) := by simp [tpM]
@[simp] theorem len_lsM (ts : List (List Rat)) : bltM .len [lsM ts] = ret (.int ts.length) := by simp [lsM]
@[simp] theorem kn_tpM (ts : List (List Rat)) : (tpM ts).known = true := (rfl)
@[simp] theorem ty_tpM (ts : List (List Rat)) (t : Ty) : (tpM ts).isTy t = decide (t = .tuple) := by simp [tpM]
@[simp] theorem idx_tpM (ts : List (List Rat)) (i : Int) : idxM (tpM ts) (.int i) = @bnd _ _ (ofO (atI ts i)) ⟨fun z => ret (tpF z)⟩ := by
  simp [tpM]
  cases atI ts i <;> rfl
@[simp] theorem tup_lsM (ts : List (List Rat)) : bltM .tuple [lsM ts] = ret (tpM ts) := (rfl)
theorem tpM_mk {α : Type} (g : α → List Rat) (ts : List α) : PV.tup (ts.map fun t => tpF (g t)) = tpM (ts.map g) := by simp [tpM]
theorem lsM_mk {α : Type} (g : α → List Rat) (ts : List α) : PV.lst (ts.map fun t => tpF (g t)) = lsM (ts.map g) := by simp [lsM]
theorem tpM_def (ts : List (List Rat)) : PV.tup (ts.map tpF) = tpM ts := rfl
theorem lsM_def (ts : List (List Rat)) : PV.lst (ts.map tpF) = lsM ts := rfl
/-- a row by place -/
def gm {α : Type} (ts : List (List α)) (i : Nat) : List α := ts.getD i []
theorem atI_gm {α : Type} {ts : List (List α)} {i : Nat} (h : i < ts.length) : atI ts (i : Int) = some (gm ts i) := by
  unfold gm
  rw [atI_get h]
  simp [List.getD_eq_getElem?_getD, h]
theorem gm_mem {α : Type} {ts : List (List α)} {i : Nat} (h : i < ts.length) : gm ts i ∈ ts := by
  unfold gm
  simp [List.getD_eq_getElem?_getD, h]
theorem gm_map {α : Type} {n i : Nat} {f : Nat → List α} (h : i < n) : gm ((List.range n).map f) i = f i := by
  unfold gm
  simp [List.getD_eq_getElem?_getD, h]
theorem list_gm {α : Type} (ts : List (List α)) : ts = (List.range ts.length).map (gm ts) := by
  conv => lhs; rw [← List.map_id ts, map_eq_range id ts []]
  rfl
theorem map_gm {α β : Type} (f : List α → β) (ts : List (List α)) : ts.map f = (List.range ts.length).map fun i => f (gm ts i) := map_eq_range f ts []
theorem rn_tpF {n : Nat} {ts : List Rat} (h : ts.length ≤ n) : (tpF ts).rn ≤ n * 1211 + 3 := by
  unfold tpF
  rw [rn_tup]
  have := rns_le (c := 1209) (xs := ts.map fr) fun x hx => by
    obtain ⟨q, _, rfl⟩ := List.mem_map.mp hx
    rw [rn_fr]
    omega
  rw [List.length_map] at this
  have := Nat.mul_le_mul_right 1211 h
  omega
theorem rk_tpF {d : Nat} {ts : List Rat} {B : Nat} (h : ∀ q, q ∈ ts → bw q ≤ B) (hB : B ≤ 1900) : PV.rk (d + 2) (tpF ts) = true := rk_tup fun x hx => by
  obtain ⟨q, hq, rfl⟩ := List.mem_map.mp hx
  exact rk_fr (Nat.le_trans (h q hq) hB)
theorem rk_tpM {d : Nat} {ts : List (List Rat)} {B : Nat} (h : ∀ r, r ∈ ts → ∀ q, q ∈ r → bw q ≤ B) (hB : B ≤ 1900) : PV.rk (d + 3) (tpM ts) = true := rk_tup fun x hx => by
  obtain ⟨r, hr, rfl⟩ := List.mem_map.mp hx
  exact rk_tpF (h r hr) hB
theorem rn_tpM {n m : Nat} {ts : List (List Rat)} (h : ts.length ≤ n) (hr : ∀ r, r ∈ ts → r.length ≤ m) : (tpM ts).rn ≤ n * (m * 1211 + 3 + 2) + 3 := by
  unfold tpM
  rw [rn_tup]
  have := rns_le (c := m * 1211 + 3) (xs := ts.map tpF) fun x hx => by
    obtain ⟨r, h1, rfl⟩ := List.mem_map.mp hx
    exact rn_tpF (hr r h1)
  rw [List.length_map] at this
  have := Nat.mul_le_mul_right (m * 1211 + 3 + 2) h
  omega
/-! ### fractions over one bottom, at most so much -/
def Nq (M B : Int) (q : Rat) : Prop := 0 < M ∧ ∃ a : Int, 0 ≤ a ∧ a ≤ B ∧ q = Rat.divInt a M
theorem Nq.bw {M B : Int} {q : Rat} {k : Nat} (h : Nq M B q) (h1 : M < 2 ^ k) (h2 : B < 2 ^ k) : bw q ≤ k := by
  obtain ⟨m, a, a0, a1, rfl⟩ := h
  exact bw_divInt (Sz.of_lt (by omega) (by omega)) (Sz.of_lt (by omega) h1) (by omega)
theorem Nq.mono {M B B' : Int} {q : Rat} (h : Nq M B q) (hB : B ≤ B') : Nq M B' q := by
  obtain ⟨m, a, a0, a1, e⟩ := h
  exact ⟨m, a, a0, by omega, e⟩
theorem Nq.add {M B B' : Int} {p q : Rat} (h : Nq M B p) (g : Nq M B' q) : Nq M (B + B') (p + q) := by
  obtain ⟨m, a, a0, a1, rfl⟩ := h
  obtain ⟨_, b, b0, b1, rfl⟩ := g
  exact ⟨m, a + b, by omega, by omega, divInt_add2 _ _ _ (by omega)⟩
theorem Nq.mul {M M' B B' : Int} {p q : Rat} (h : Nq M B p) (g : Nq M' B' q) : Nq (M * M') (B * B') (p * q) := by
  obtain ⟨m, a, a0, a1, rfl⟩ := h
  obtain ⟨m', b, b0, b1, rfl⟩ := g
  exact ⟨Int.mul_pos m m', a * b, Int.mul_nonneg a0 b0, Int.mul_le_mul a1 b1 b0 (by omega), by rw [Rat.divInt_mul_divInt]⟩
theorem Nq.zero {M B : Int} (h : 0 < M) (hB : 0 ≤ B) : Nq M B 0 := ⟨h, 0, by omega, hB, by simp⟩
theorem Nq.one : Nq 1 1 1 := ⟨by omega, 1, by omega, by omega, by rfl⟩
theorem Nq.int {i B : Int} (h : 0 ≤ i) (hB : i ≤ B) : Nq 1 B (i : Rat) := ⟨by omega, i, h, hB, by rw [Rat.divInt_eq_div]; grind⟩
theorem Nq.rs {M B : Int} {f : Nat → Rat} (m : 0 < M) (hB : 0 ≤ B) : ∀ n : Nat, (∀ i, i < n → Nq M B (f i)) → Nq M (n * B) (rs n f)
  | 0, _ => by
    rw [rs_0]
    exact Nq.zero m (by omega)
  | n + 1, h => by
    rw [rs_succ]
    have h1 := Nq.rs m hB n fun i hi => h i (by omega)
    have h2 := h1.add (h n (by omega))
    rw [show ((n + 1 : Nat) : Int) * B = n * B + B by rw [Int.natCast_add, Int.add_mul]; omega]
    exact h2
theorem Nq.nonneg {M B : Int} {q : Rat} (h : Nq M B q) : 0 ≤ q := by
  obtain ⟨m, a, a0, a1, rfl⟩ := h
  exact (Rat.divInt_nonneg_iff_of_pos_right m).mpr a0
theorem fr_i (p : Int) : PV.tup [.int p, .int 1] = fr (p : Rat) := rfl
theorem fr_1' : PV.tup [.int 1, .int 1] = fr 1 := rfl
theorem fr_0' : PV.tup [.int 0, .int 1] = fr 0 := rfl
end Rk

set_option maxHeartbeats 1000000
namespace Rk
open PySem PySem.Spec PyProof.Rows L2 M
/-! ### tables -/
@[simp] theorem dg_nil (k : Key) : dg [] k = none := (rfl)
theorem dg_app (xs ys : List (Key × PV)) (k : Key) : dg (xs ++ ys) k = match dg xs k with
    | some v => some v
    | none => dg ys k := by
  induction xs with
  | nil => rfl
  | cons z xs ih =>
    rw [List.cons_append, dg_cons, dg_cons, ih]
    by_cases h : z.1 = k <;> simp [h]
theorem dg_dp (xs : List (Key × PV)) (k j : Key) (p : PV) : dg (dp xs k p) j = if j = k then some p else dg xs j := by
  unfold dp
  by_cases h : (dg xs k).isSome
  · rw [if_pos h]
    induction xs with
    | nil => cases h
    | cons z xs ih =>
      rw [List.map_cons, dg_cons, dg_cons]
      rw [dg_cons] at h
      by_cases hz : z.1 = k
      · simp only [hz, if_true]
        by_cases hj : k = j
        · simp [hj]
        · rw [if_neg hj, if_neg hj, if_neg (fun e => hj e.symm)]
          have e : ∀ ys : List (Key × PV), dg (ys.map fun z => if z.1 = k then (z.1, p) else z) j = dg ys j := fun ys => by
            induction ys with
            | nil => rfl
            | cons y ys ih2 =>
              rw [List.map_cons, dg_cons, dg_cons, ih2]
              by_cases hy : y.1 = k
              · simp [hy, hj]
              · simp [hy]
          exact e xs
      · rw [if_neg hz] at h
        simp only [hz, if_false]
        by_cases hj : z.1 = j
        · have : ¬ j = k := fun e => hz (hj.trans e)
          simp [hj, this]
        · rw [if_neg hj, if_neg hj]
          exact ih h
  · rw [if_neg h, dg_app, dg_cons]
    have hn : dg xs k = none := by
      cases e : dg xs k with
      | none => rfl
      | some _ => rw [e] at h; exact absurd rfl h
    by_cases hj : j = k
    · subst hj
      simp [hn]
    · have hk : ¬ k = j := fun e => hj e.symm
      simp only [hj, hk, if_false, dg_nil]
      cases dg xs j <;> rfl
def tab (ks : Nat → Key) (f : Nat → PV) (n : Nat) : List (Key × PV) := (List.range n).map fun j => (ks j, f j)
theorem tab_succ (ks : Nat → Key) (f : Nat → PV) (n : Nat) : tab ks f (n + 1) = tab ks f n ++ [(ks n, f n)] := by simp [tab, List.range_succ]
theorem tab_len (ks : Nat → Key) (f : Nat → PV) (n : Nat) : (tab ks f n).length = n := by simp [tab]
theorem tab_congr {ks : Nat → Key} {f g : Nat → PV} {n : Nat} (h : ∀ j, j < n → f j = g j) : tab ks f n = tab ks g n := by
  unfold tab
  refine List.map_congr_left fun j hj => ?_
  rw [h j (List.mem_range.mp hj)]
theorem dg_tab {ks : Nat → Key} (inj : ∀ i j, ks i = ks j → i = j) (f : Nat → PV) (j : Nat) : ∀ n, dg (tab ks f n) (ks j) = if j < n then some (f j) else none
  | 0 => by simp [tab]
  | n + 1 => by
    rw [tab_succ, dg_app, dg_tab inj f j n, dg_cons]
    by_cases h : j < n
    · simp [h, show j < n + 1 by omega]
    · by_cases e : j = n
      · subst e
        simp
      · have : ¬ ks n = ks j := fun z => e (inj _ _ z).symm
        simp [h, this, show ¬ j < n + 1 by omega]
theorem dp_tab {ks : Nat → Key} (inj : ∀ i j, ks i = ks j → i = j) (f : Nat → PV) (j : Nat) (p : PV) {n : Nat} (h : j < n) : dp (tab ks f n) (ks j) p = tab ks (fun i => if i = j then p else f i) n := by
  unfold dp
  rw [dg_tab inj, if_pos h]
  simp only [Option.isSome_some, if_true]
  unfold tab
  rw [List.map_map]
  refine List.map_congr_left fun i _ => ?_
  by_cases e : i = j
  · subst e
    simp
  · have : ¬ ks i = ks j := fun z => e (inj _ _ z)
    simp [this, e]
theorem dp_tab_new {ks : Nat → Key} (inj : ∀ i j, ks i = ks j → i = j) (f : Nat → PV) (p : PV) (n : Nat) : dp (tab ks f n) (ks n) p = tab ks (fun i => if i = n then p else f i) (n + 1) := by
  unfold dp
  rw [dg_tab inj, if_neg (Nat.lt_irrefl n)]
  simp only [Option.isSome_none, Bool.false_eq_true, if_false]
  rw [tab_succ, if_pos rfl]
  congr 1
  refine tab_congr fun i hi => ?_
  rw [if_neg (by omega)]
theorem keysI_tab (y : Nat → Int) (f : Nat → PV) : ∀ n, keysI (tab (fun j => .inl (y j)) f n) = some ((List.range n).map y) := fun n => by
  unfold tab
  generalize List.range n = l
  induction l with
  | nil => rfl
  | cons i l ih => simp [keysI, ih]
end Rk

set_option maxHeartbeats 1000000
namespace Rk
open PySem PySem.Spec PyProof.Rows L2 M
theorem ite_i {c p q : Prop} [Decidable c] (h1 : c → p) (h2 : ¬c → q) : if c then p else q := by
  split
  · exact h1 (by assumption)
  · exact h2 (by assumption)
section
variable {S : MSig} {tg : Tg} {elt : Ex} {ρ : Env'}
theorem compM_rel {α β : Type} {one : PV → Env' → M Env'} {e : Env' → M PV} {f : α → PV} {P : α → β → Prop} {g : β → PV} {E : Exn → Prop} : ∀ {ts : List α} {acc : List PV} {Q : List PV → Prop},
    (∀ t, t ∈ ts → ∀ R : PV → Prop, (∀ b, P t b → R (g b)) → (bind (one (f t) ρ) e).wp R E) → acc.length + ts.length ≤ 1000000 → (∀ bs : List β, bs.length = ts.length → (∀ p, p ∈ ts.zip bs → P p.1 p.2) → Q (acc ++ bs.map g)) →
    (compM one (fun _ => ret true) e ρ (ts.map f) acc).wp Q E
  | [], acc, Q, _, _, hq => by
    have h := hq [] rfl (fun b h => by cases h)
    simpa [compM] using h
  | t :: ts, acc, Q, h, hs, hq => by
    simp only [List.map_cons, compM, M.bind, if_true]
    simp only [List.length_cons] at hs
    rw [← bind_assoc (k := e), wp_bind]
    refine h t List.mem_cons_self _ fun b hb => wp_req.mpr ⟨size_lt (by omega), ?_⟩
    refine compM_rel (P := P) (g := g) (fun u hu => h u (List.mem_cons_of_mem _ hu)) ?_ fun bs hl hbs => ?_
    · rw [List.length_append, List.length_singleton]
      omega
    · have z := hq (b :: bs) (by simp [hl]) (fun c hc => by
        rw [List.zip_cons_cons] at hc
        rcases List.mem_cons.mp hc with rfl | hc
        · exact hb
        · exact hbs c hc)
      simpa using z
theorem cmpL_rel {α β : Type} {f : α → PV} {ts : List α} {P : α → β → Prop} {g : β → PV} {E : Exn → Prop} {Q : List PV → Prop} (h : ∀ t, t ∈ ts → ∀ R : PV → Prop, (∀ b, P t b → R (g b)) → (cmp1 S tg elt ρ (f t)).wp R E) (hs : ts.length ≤ 1000000)
    (hq : ∀ bs : List β, bs.length = ts.length → (∀ p, p ∈ ts.zip bs → P p.1 p.2) → Q (bs.map g)) : (cmpL S tg .nil elt ρ (ts.map f)).wp Q E := by
  unfold cmpL
  have e : (fun ρ' : Env' => if Ex.nil.isNil = true then ret true else nox ((ev S .nil).t ρ')) = fun _ => ret true := rfl
  rw [e]
  exact compM_rel h (by simpa using hs) (fun bs hl hb => by simpa using hq bs hl hb)
end
end Rk

set_option maxHeartbeats 1000000
namespace Rk
open PySem PySem.Spec PyProof.Rows L2 M
theorem dp_len (xs : List (Key × PV)) (k : Key) (p : PV) : (dp xs k p).length ≤ xs.length + 1 := by
  unfold dp
  split
  · simp
  · simp
/-- a dict comprehension's turn -/
noncomputable def dco1 (S : MSig) (tg : Tg) (cnd ky vl : Ex) (ρ : Env') (x : PV) : M (Option (Key × PV)) := @bnd _ _ ((tgM tg).one x ρ) ⟨fun ρ' => @bnd _ _ (if cnd.isNil = true then ret true else nox ((ev S cnd).t ρ')) ⟨fun b => if b = true then @bnd _ _ (nox ((ev S ky).e ρ')) ⟨fun y => @bnd _ _ (keyM y) ⟨fun k => @bnd _ _ (nox ((ev S vl).e ρ')) ⟨fun z => ret (some (k, z))⟩⟩⟩ else ret none⟩⟩
section
variable {S : MSig} {tg : Tg} {cnd ky vl : Ex} {ρ : Env'}
def dstep (acc : List (Key × PV)) : Option (Key × PV) → List (Key × PV)
  | some z => dp acc z.1 z.2
  | none => acc
theorem dcoL_step (x : PV) (xs : List PV) (acc : List (Key × PV)) (o : Option (Key × PV)) (h : dco1 S tg cnd ky vl ρ x = ret o) (hs : acc.length < 1000000) : dcoL S tg cnd ky vl ρ (x :: xs) acc = dcoL S tg cnd ky vl ρ xs (dstep acc o) := by
  have e : dcoL S tg cnd ky vl ρ (x :: xs) acc = bind (dco1 S tg cnd ky vl ρ x) fun o => match o with
      | some z => req (acc.length < sizeLine) (dcoL S tg cnd ky vl ρ xs (dp acc z.1 z.2))
      | none => dcoL S tg cnd ky vl ρ xs acc := by
    rw [dcoL_cons]
    unfold dco1
    show bind _ _ = bind (bind _ _) _
    rw [bind_assoc]
    congr 1
    funext ρ'
    show bind _ _ = bind (bind _ _) _
    rw [bind_assoc]
    congr 1
    funext b
    cases b with
    | true =>
      show bind _ _ = bind (bind _ _) _
      rw [bind_assoc]
      congr 1
      funext y
      show bind _ _ = bind (bind _ _) _
      rw [bind_assoc]
      congr 1
      funext k
      show bind _ _ = bind (bind _ _) _
      rw [bind_assoc]
      rfl
    | false => rfl
  rw [e, h]
  cases o with
  | some z =>
    show req _ _ = _
    rw [req_of (size_lt (by omega))]
    rfl
  | none => rfl
theorem dcoL_fold {α : Type} {f : α → PV} (g : α → Option (Key × PV)) : ∀ (ts : List α) (acc : List (Key × PV)), (∀ t, t ∈ ts → dco1 S tg cnd ky vl ρ (f t) = ret (g t)) → acc.length + ts.length < 1000000 → dcoL S tg cnd ky vl ρ (ts.map f) acc = ret (ts.foldl (fun acc t => dstep acc (g t)) acc)
  | [], acc, _, _ => by simp
  | t :: ts, acc, h, hs => by
    simp only [List.length_cons] at hs
    rw [List.map_cons, dcoL_step _ _ _ _ (h t List.mem_cons_self) (by omega)]
    have hl : (dstep acc (g t)).length ≤ acc.length + 1 := by
      cases g t with
      | none => exact Nat.le_succ _
      | some z => exact dp_len _ _ _
    rw [dcoL_fold g ts _ (fun u hu => h u (List.mem_cons_of_mem _ hu)) (by omega)]
    rfl
end
theorem era_map {α β : Type} (f : α → β) (xs : List α) (r : Nat) : (xs.map f).eraseIdx r = (xs.eraseIdx r).map f := by simp [List.eraseIdx_eq_take_drop_succ, List.map_take, List.map_drop]
theorem era_perm {α : Type} (xs : List α) (r : Nat) (h : r < xs.length) : (xs[r] :: xs.eraseIdx r).Perm xs := by
  rw [List.eraseIdx_eq_take_drop_succ]
  have e : xs = xs.take r ++ xs[r] :: xs.drop (r + 1) := by
    rw [← List.drop_eq_getElem_cons h, List.take_append_drop]
  conv => rhs; rw [e]
  exact List.perm_middle.symm
theorem ixN_nat {n r : Nat} (h : r < n) : ixN n (r : Int) = some r := by
  unfold ixN
  rw [if_pos (by omega), if_pos (by omega)]
  simp
/-! ### a dict as a set of ints -/
def ins (acc : List Int) (t : Int) : List Int := if t ∈ acc then acc else acc ++ [t]
def kd (acc : List Int) : List (Key × PV) := acc.map fun t => (.inl t, .bl true)
theorem dg_kd (acc : List Int) (t : Int) : dg (kd acc) (.inl t) = if t ∈ acc then some (.bl true) else none := by
  induction acc with
  | nil => rfl
  | cons a acc ih =>
    show dg ((.inl a, .bl true) :: kd acc) (.inl t) = _
    rw [dg_cons, ih]
    by_cases h : a = t
    · simp [h]
    · have h2 : ¬ (Sum.inl a : Key) = .inl t := fun e => h (Sum.inl.inj e)
      have h3 : ¬ t = a := fun e => h e.symm
      simp [h2, h3]
theorem dp_kd (acc : List Int) (t : Int) : dp (kd acc) (.inl t) (.bl true) = kd (ins acc t) := by
  unfold dp ins
  rw [dg_kd]
  by_cases h : t ∈ acc
  · rw [if_pos h, if_pos h]
    simp only [Option.isSome_some, if_true]
    unfold kd
    rw [List.map_map]
    refine List.map_congr_left fun u hu => ?_
    simp
  · rw [if_neg h, if_neg h]
    simp [kd]
theorem keysI_kd : ∀ acc : List Int, keysI (kd acc) = some acc
  | [] => rfl
  | a :: acc => by
    show (keysI (kd acc)).map (a :: ·) = _
    rw [keysI_kd acc]
    rfl
theorem mem_ins (acc : List Int) (t u : Int) : u ∈ ins acc t ↔ u ∈ acc ∨ u = t := by
  unfold ins
  split
  · rename_i h
    exact ⟨.inl, fun z => z.elim id fun e => e ▸ h⟩
  · simp
theorem nodup_ins {acc : List Int} (h : acc.Nodup) (t : Int) : (ins acc t).Nodup := by
  unfold ins
  split
  · exact h
  · rename_i ht
    rw [List.nodup_append]
    refine ⟨h, by simp, fun x hx y hy e => ?_⟩
    simp at hy
    subst hy
    subst e
    exact ht hx
def uniq (ts : List Int) : List Int := ts.foldl ins []
theorem fold_ins_mem : ∀ (ts acc : List Int) (u : Int), u ∈ ts.foldl ins acc ↔ u ∈ acc ∨ u ∈ ts
  | [], acc, u => by simp
  | t :: ts, acc, u => by
    rw [List.foldl_cons, fold_ins_mem ts, mem_ins, List.mem_cons]
    exact ⟨fun h => h.elim (fun h => h.elim .inl fun e => .inr (.inl e)) fun h => .inr (.inr h), fun h => h.elim (fun h => .inl (.inl h)) fun h => h.elim (fun e => .inl (.inr e)) .inr⟩
theorem fold_ins_nodup : ∀ (ts acc : List Int), acc.Nodup → (ts.foldl ins acc).Nodup
  | [], acc, h => h
  | t :: ts, acc, h => fold_ins_nodup ts _ (nodup_ins h t)
theorem uniq_mem (ts : List Int) (u : Int) : u ∈ uniq ts ↔ u ∈ ts := by
  unfold uniq
  rw [fold_ins_mem]
  simp
theorem uniq_nodup (ts : List Int) : (uniq ts).Nodup := fold_ins_nodup ts [] List.nodup_nil
theorem fold_ins_len : ∀ (ts acc : List Int), (ts.foldl ins acc).length ≤ acc.length + ts.length
  | [], acc => Nat.le_refl _
  | t :: ts, acc => by
    have h := fold_ins_len ts (ins acc t)
    have h2 : (ins acc t).length ≤ acc.length + 1 := by
      unfold ins
      split <;> simp
    simp only [List.foldl_cons, List.length_cons]
    omega
theorem uniq_len (ts : List Int) : (uniq ts).length ≤ ts.length := by
  have := fold_ins_len ts []
  simpa [uniq] using this
/-- ascending, each once -/
def asc (ts : List Int) : List Int := isort (uniq ts)
theorem asc_mem (ts : List Int) (u : Int) : u ∈ asc ts ↔ u ∈ ts := by
  unfold asc
  rw [(isort_perm _).mem_iff, uniq_mem]
theorem asc_len (ts : List Int) : (asc ts).length ≤ ts.length := by
  unfold asc
  rw [(isort_perm _).length_eq]
  exact uniq_len ts
theorem asc_pw (ts : List Int) : (asc ts).Pairwise (· < ·) := by
  have h1 := isort_pw (uniq ts)
  have h2 : (isort (uniq ts)).Nodup := (isort_perm _).nodup_iff.mpr (uniq_nodup ts)
  unfold asc
  generalize isort (uniq ts) = l at *
  induction l with
  | nil => exact .nil
  | cons a l ih =>
    rw [List.pairwise_cons] at h1 ⊢
    rw [List.nodup_cons] at h2
    exact ⟨fun b hb => by
      have := h1.1 b hb
      have ne : a ≠ b := fun e => h2.1 (e ▸ hb)
      omega, ih h1.2 h2.2⟩
theorem asc_ext : ∀ {l m : List Int}, l.Pairwise (· < ·) → m.Pairwise (· < ·) → (∀ u, u ∈ l ↔ u ∈ m) → l = m := fun {l m} h1 h2 he => by
  refine List.Perm.eq_of_pairwise (le := (· < ·)) (fun a b _ _ h1 h2 => by omega) h1 h2 ?_
  refine (List.perm_ext_iff_of_nodup (h1.imp fun h => by omega) (h2.imp fun h => by omega)).mpr he
theorem asc_eq {xs ys : List Int} (h : ∀ u, u ∈ xs ↔ u ∈ ys) : asc xs = asc ys := asc_ext (asc_pw _) (asc_pw _) fun u => by rw [asc_mem, asc_mem, h]
end Rk

set_option maxHeartbeats 1000000
namespace Lk20
open PySem PySem.Spec PyProof.Rows L2 Rk M
abbrev Sg := Int × Bool
def sV (s : Sg) : PV := .tup [.int s.1, .bl s.2]
structure Sn (ss : List Sg) : Prop where
  l1 : ss.length ≤ 20
  b : ∀ s, s ∈ ss → 0 ≤ s.1 ∧ s.1 ≤ 1000
variable {ss : List Sg}
def rk (ss : List Sg) (t : Int) : Nat := (ss.filter fun s => decide (t ≤ s.1)).length
def en (ss : List Sg) (t : Int) : Nat := (ss.filter fun s => s.2 && decide (s.1 = t)).length
def ets (ss : List Sg) : List Int := (ss.filter (·.2)).map (·.1)
theorem rk_le (ss : List Sg) (t : Int) : rk ss t ≤ ss.length := List.length_filter_le _ _
theorem en_le (ss : List Sg) (t : Int) : en ss t ≤ rk ss t := by
  unfold en rk
  induction ss with
  | nil => exact Nat.le_refl _
  | cons s ss ih =>
    rw [List.filter_cons, List.filter_cons]
    by_cases h1 : (s.2 && decide (s.1 = t)) = true
    · have h2 : decide (t ≤ s.1) = true := by
        simp at h1
        simp
        omega
      rw [if_pos h1, if_pos h2]
      simpa using ih
    · rw [if_neg h1]
      split
      · simp
        omega
      · exact ih
theorem rk_pos {t : Int} (h : t ∈ ets ss) : 0 < rk ss t := by
  obtain ⟨s, hs, rfl⟩ := List.mem_map.mp h
  have h1 := (List.mem_filter.mp hs).1
  exact List.length_pos_of_mem (List.mem_filter.mpr ⟨h1, by simp⟩)
theorem risk_t (h : ss.length ≤ 20) (t : Int) {c : Bool} : F_raw_at_risk [if c then .tup (ss.map sV) else .lst (ss.map sV), .int t] = ret (.int (rk ss t)) := by
  have e : itemsM (if c then .tup (ss.map sV) else .lst (ss.map sV)) = ret (ss.map sV) := by cases c <;> rfl
  simp [u_raw_at_risk, e]
  rw [cmpL_fil (fun s : Sg => decide (t ≤ s.1)) sV rfl (fun s hs => by
    by_cases z : t ≤ s.1 <;> simp [cmp2, sV, z]) (by omega)]
  simp [rk]
theorem ends_t (h : ss.length ≤ 20) (t : Int) {c : Bool} : F_raw_ends [if c then .tup (ss.map sV) else .lst (ss.map sV), .int t] = ret (.int (en ss t)) := by
  have e : itemsM (if c then .tup (ss.map sV) else .lst (ss.map sV)) = ret (ss.map sV) := by cases c <;> rfl
  simp [u_raw_ends, e]
  rw [cmpL_fil (fun s : Sg => s.2 && decide (s.1 = t)) sV rfl (fun s hs => by
    obtain ⟨x, y⟩ := s
    by_cases z : x = t <;> cases y <;> simp [cmp2, sV, z]) (by omega)]
  simp [en]
theorem lrisk_t (h : ss.length ≤ 20) (t : Int) {c : Bool} : F__law_risk [if c then .tup (ss.map sV) else .lst (ss.map sV), .int t] = ret (.int (rk ss t)) := by
  have e : itemsM (if c then .tup (ss.map sV) else .lst (ss.map sV)) = ret (ss.map sV) := by cases c <;> rfl
  simp [u__law_risk, e]
  rw [cmpL_fil (fun s : Sg => decide (t ≤ s.1)) (fun _ => .int 1) rfl (fun s hs => by
    by_cases z : t ≤ s.1 <;> simp [cmp2, sV, z]) (by omega)]
  simp [rk]
theorem lends_t (h : ss.length ≤ 20) (t : Int) {c : Bool} : F__law_ends [if c then .tup (ss.map sV) else .lst (ss.map sV), .int t] = ret (.int (en ss t)) := by
  have e : itemsM (if c then .tup (ss.map sV) else .lst (ss.map sV)) = ret (ss.map sV) := by cases c <;> rfl
  simp [u__law_ends, e]
  rw [cmpL_fil (fun s : Sg => s.2 && decide (s.1 = t)) (fun _ => .int 1) rfl (fun s hs => by
    obtain ⟨x, y⟩ := s
    by_cases z : x = t <;> cases y <;> simp [cmp2, sV, z]) (by omega)]
  simp [en]
theorem kd_fold : ∀ (ss : List Sg) (acc : List Int), ss.foldl (fun acc s => dstep acc (if s.2 = true then some (.inl s.1, .bl true) else none)) (kd acc) = kd ((ets ss).foldl ins acc)
  | [], acc => rfl
  | s :: ss, acc => by
    obtain ⟨x, y⟩ := s
    cases y with
    | true =>
      show ss.foldl _ (dp (kd acc) (.inl x) (.bl true)) = _
      rw [dp_kd]
      exact kd_fold ss _
    | false => exact kd_fold ss acc
theorem ets_len (ss : List Sg) : (ets ss).length ≤ ss.length := by
  unfold ets
  rw [List.length_map]
  exact List.length_filter_le _ _
theorem times_t (h : ss.length ≤ 20) {c : Bool} : F_end_times [if c then .tup (ss.map sV) else .lst (ss.map sV)] = ret (lsI (asc (ets ss))) := by
  have e : itemsM (if c then .tup (ss.map sV) else .lst (ss.map sV)) = ret (ss.map sV) := by cases c <;> rfl
  have hl := uniq_len (ets ss)
  have hl2 := ets_len ss
  have hk := kd_fold ss []
  simp [u_end_times, e]
  rw [dcoL_fold (fun s : Sg => if s.2 = true then some (.inl s.1, .bl true) else none) ss [] (fun s hs => by
    obtain ⟨x, y⟩ := s
    cases y <;> simp [dco1, sV, Ex.isNil]) (by simp; omega)]
  rw [show (kd []) = [] from rfl] at hk
  rw [hk]
  simp [keysI_kd]
  exact ⟨by unfold uniq at hl; omega, rfl⟩
theorem ltimes_loop {sv : PV} : ∀ (ss : List Sg) (acc : List Int) (x2 x3 : Rk.Slot), acc.length + ss.length ≤ 1000 →
    ∃ y2 y3, forL S__law_times_of (.tp ((Tg.nm 2).cons ((Tg.nm 3).cons Tg.nil))) bd__law_times_of_0 (ss.map sV) [.fz sv, .od (kd acc), x2, x3] = ret (.nx [.fz sv, .od (kd ((ets ss).foldl ins acc)), y2, y3])
  | [], acc, x2, x3, _ => ⟨x2, x3, by simp [for_nil, ets]⟩
  | s :: ss, acc, x2, x3, hl => by
    obtain ⟨x, y⟩ := s
    simp only [List.length_cons] at hl
    have hk : (kd acc).length = acc.length := by simp [kd]
    cases y with
    | true =>
      have hi : (ins acc x).length ≤ acc.length + 1 := by unfold ins; split <;> simp
      obtain ⟨y2, y3, ih⟩ := ltimes_loop (sv := sv) ss (ins acc x) (.fz (.int x)) (.fz (.bl true)) (by omega)
      refine ⟨y2, y3, ?_⟩
      rw [List.map_cons, for_cons]
      simp [sV, b__law_times_of_0, hk, show acc.length < 16777216 by omega, dp_kd]
      exact ih
    | false =>
      obtain ⟨y2, y3, ih⟩ := ltimes_loop (sv := sv) ss acc (.fz (.int x)) (.fz (.bl false)) (by omega)
      refine ⟨y2, y3, ?_⟩
      rw [List.map_cons, for_cons]
      simp [sV, b__law_times_of_0]
      exact ih
theorem ltimes_t (h : ss.length ≤ 20) {c : Bool} : F__law_times_of [if c then .tup (ss.map sV) else .lst (ss.map sV)] = ret (lsI (asc (ets ss))) := by
  have e : itemsM (if c then .tup (ss.map sV) else .lst (ss.map sV)) = ret (ss.map sV) := by cases c <;> rfl
  have hl := uniq_len (ets ss)
  have hl2 := ets_len ss
  obtain ⟨y2, y3, hk⟩ := ltimes_loop (sv := if c then .tup (ss.map sV) else .lst (ss.map sV)) ss [] .un .un (by simp; omega)
  rw [show (kd []) = [] from rfl] at hk
  simp [u__law_times_of, e]
  rw [hk]
  simp [keysI_kd]
  exact ⟨by unfold uniq at hl; omega, rfl⟩
end Lk20

set_option maxHeartbeats 1000000
namespace Lk20
open PySem PySem.Spec PyProof.Rows L2 Rk M
variable {ss : List Sg}
def fq (ss : List Sg) (t : Int) : Rat := Rat.divInt ((rk ss t : Int) - en ss t) (rk ss t : Int)
def cvs (ss : List Sg) : Rat → List Int → List (Int × Rat)
  | _, [] => []
  | q, t :: ts => (t, q * fq ss t) :: cvs ss (q * fq ss t) ts
def cV (p : Int × Rat) : PV := .tup [.int p.1, fr p.2]
theorem fq_bw (h : ss.length ≤ 20) {t : Int} (p : 0 < rk ss t) : bw (fq ss t) ≤ 6 := by
  have h1 := rk_le ss t
  have h2 := en_le ss t
  exact bw_divInt (Sz.of_lt (by omega) (by omega)) (Sz.of_lt (by omega) (by omega)) (by omega)
theorem lmul_fr {p q : Rat} (h : bw p + bw q ≤ 8000) : F__law_times [fr p, fr q] = ret (fr (p * q)) := by
  obtain ⟨m1, m2, m3, m4⟩ := okp h
  have b0 := bw_pos p
  simp [u__law_times, m3, m2, lover_i (a := p.num * q.num) (sz_dd p q) (Int.mul_pos (den_pos p) (den_pos q)) (by omega) (by omega), ← mul_eq]
def seqV (c : Bool) (ss : List Sg) : PV := if c then .tup (ss.map sV) else .lst (ss.map sV)
theorem curve_loop (h : ss.length ≤ 20) {c : Bool} : ∀ (ts : List Int) (q : Rat) (acc : List (Int × Rat)) (x1 x4 : Rk.Slot) (k : Nat), (∀ t, t ∈ ts → 0 < rk ss t) → bw q ≤ k → k + ts.length * 6 ≤ 7000 → acc.length + ts.length ≤ 1000 →
    ∃ y1 q' y4, forL S_raw_curve (.nm 1) bd_raw_curve_0 (ts.map .int) [.fz (seqV c ss), x1, .ol (acc.map cV), .fz (fr q), x4] = ret (.nx [.fz (seqV c ss), y1, .ol ((acc ++ cvs ss q ts).map cV), .fz (fr q'), y4])
  | [], q, acc, x1, x4, k, _, _, _, _ => ⟨x1, q, x4, by simp [for_nil, cvs]⟩
  | t :: ts, q, acc, x1, x4, k, hp, hq, hk, hl => by
    simp only [List.length_cons, Nat.add_mul] at hk hl
    have p := hp t List.mem_cons_self
    have b := fq_bw h p
    have b2 := bw_mul q (fq ss t)
    obtain ⟨y1, q', y4, ih⟩ := curve_loop h (c := c) ts (q * fq ss t) (acc ++ [(t, q * fq ss t)]) (.fz (.int t)) (.fz (.int (rk ss t))) (k + 6) (fun u hu => hp u (List.mem_cons_of_mem _ hu)) (by omega) (by omega) (by simp; omega)
    refine ⟨y1, q', y4, ?_⟩
    have h1 := rk_le ss t
    have h2 := en_le ss t
    have r1 : F_raw_at_risk [seqV c ss, .int t] = ret (.int (rk ss t)) := risk_t h t
    have r2 : F_raw_ends [seqV c ss, .int t] = ret (.int (en ss t)) := ends_t h t
    have hm : F_raw_made [.int ((rk ss t : Int) - en ss t), .int (rk ss t)] = ret (fr (fq ss t)) := raw_made_i (k := 6) (Sz.of_lt (by omega) (by omega)) (Sz.of_lt (by omega) (by omega)) (by omega) (by omega) (by omega)
    have ht := raw_times_fr (p := q) (q := fq ss t) (by omega)
    rw [List.map_cons, for_cons]
    simp [b_raw_curve_0, r1, r2, hm, ht, show acc.length < 16777216 by omega]
    simp [cV] at ih
    rw [cvs]
    simp [cV]
    exact ih
theorem lcurve_loop (h : ss.length ≤ 20) {c : Bool} : ∀ (ts : List Int) (q : Rat) (acc : List (Int × Rat)) (x1 x4 : Rk.Slot) (k : Nat), (∀ t, t ∈ ts → 0 < rk ss t) → bw q ≤ k → k + ts.length * 6 ≤ 7000 → acc.length + ts.length ≤ 1000 →
    ∃ y1 q' y4, forL S__law_curve (.nm 1) bd__law_curve_0 (ts.map .int) [.fz (seqV c ss), x1, .ol (acc.map cV), .fz (fr q), x4] = ret (.nx [.fz (seqV c ss), y1, .ol ((acc ++ cvs ss q ts).map cV), .fz (fr q'), y4])
  | [], q, acc, x1, x4, k, _, _, _, _ => ⟨x1, q, x4, by simp [for_nil, cvs]⟩
  | t :: ts, q, acc, x1, x4, k, hp, hq, hk, hl => by
    simp only [List.length_cons, Nat.add_mul] at hk hl
    have p := hp t List.mem_cons_self
    have b := fq_bw h p
    have b2 := bw_mul q (fq ss t)
    obtain ⟨y1, q', y4, ih⟩ := lcurve_loop h (c := c) ts (q * fq ss t) (acc ++ [(t, q * fq ss t)]) (.fz (.int t)) (.fz (.int (rk ss t))) (k + 6) (fun u hu => hp u (List.mem_cons_of_mem _ hu)) (by omega) (by omega) (by simp; omega)
    refine ⟨y1, q', y4, ?_⟩
    have h1 := rk_le ss t
    have h2 := en_le ss t
    have r1 : F__law_risk [seqV c ss, .int t] = ret (.int (rk ss t)) := lrisk_t h t
    have r2 : F__law_ends [seqV c ss, .int t] = ret (.int (en ss t)) := lends_t h t
    have hm : F__law_over [.int ((rk ss t : Int) - en ss t), .int (rk ss t)] = ret (fr (fq ss t)) := lover_i (k := 6) (Sz.of_lt (by omega) (by omega)) (by omega) (by omega) (by omega)
    have ht := lmul_fr (p := q) (q := fq ss t) (by omega)
    rw [List.map_cons, for_cons]
    simp [b__law_curve_0, r1, r2, hm, ht, show acc.length < 16777216 by omega]
    simp [cV] at ih
    rw [cvs]
    simp [cV]
    exact ih
def cv (ss : List Sg) : List (Int × Rat) := cvs ss 1 (asc (ets ss))
theorem asc_rk (t : Int) (h : t ∈ asc (ets ss)) : 0 < rk ss t := rk_pos ((asc_mem _ _).mp h)
theorem asc_len20 (h : ss.length ≤ 20) : (asc (ets ss)).length ≤ 20 := by
  have h1 := asc_len (ets ss)
  have h2 := ets_len ss
  omega
theorem rcurve_t (h : ss.length ≤ 20) {c : Bool} : F_raw_curve [seqV c ss] = ret (.lst ((cv ss).map cV)) := by
  have ht : F_end_times [seqV c ss] = ret (lsI (asc (ets ss))) := times_t h
  have hl := asc_len20 h
  obtain ⟨y1, q', y4, e⟩ := curve_loop h (c := c) (asc (ets ss)) 1 [] .un .un 1 (fun t ht => asc_rk t ht) (by rw [bw_1]; omega) (by omega) (by simp; omega)
  simp at e
  simp [u_raw_curve, ht]
  rw [e]
  simp [cv]
theorem lcurve_t (h : ss.length ≤ 20) {c : Bool} : F__law_curve [seqV c ss] = ret (.lst ((cv ss).map cV)) := by
  have ht : F__law_times_of [seqV c ss] = ret (lsI (asc (ets ss))) := ltimes_t h
  have hl := asc_len20 h
  obtain ⟨y1, q', y4, e⟩ := lcurve_loop h (c := c) (asc (ets ss)) 1 [] .un .un 1 (fun t ht => asc_rk t ht) (by rw [bw_1]; omega) (by omega) (by simp; omega)
  simp at e
  simp [u__law_curve, ht]
  rw [show PV.tup [.int 1, .int 1] = fr 1 from rfl, e]
  simp [cv]
theorem sight_t {s : Sg} (h : 0 ≤ s.1 ∧ s.1 ≤ 1000) : F_is_sight [sV s] = ret (.bl true) := by
  simp [u_is_sight, sV, is_within_int, h]
theorem check_t (h : Sn ss) (l0 : 1 ≤ ss.length) : F_check_seen [.tup (ss.map sV)] = ret .non := by
  have := h.l1
  simp [u_check_seen, show (1 : Int) ≤ ss.length by omega, show ((ss.length : Nat) : Int) ≤ 60 by omega]
  rw [cmpL_map (fun _ => .bl true) (fun s hs => by simp [cmp1, sight_t (h.b s hs)]) (by omega)]
  simp
theorem checkT_t (h : Sn ss) (l0 : 1 ≤ ss.length) {t : Int} (t0 : 0 ≤ t) (t1 : t ≤ 1000) : F_check_seen_time [.tup (ss.map sV), .int t] = ret .non := by
  simp [u_check_seen_time, check_t h l0, is_within_int, t0, t1]
theorem cvs_len (ss : List Sg) : ∀ (ts : List Int) (q : Rat), (cvs ss q ts).length = ts.length
  | [], q => rfl
  | t :: ts, q => by rw [cvs, List.length_cons, cvs_len ss ts, List.length_cons]
theorem cvs_bw (h : ss.length ≤ 20) : ∀ (ts : List Int) (q : Rat) (k : Nat), (∀ t, t ∈ ts → 0 < rk ss t) → bw q ≤ k → ∀ p, p ∈ cvs ss q ts → bw p.2 ≤ k + 6 * ts.length ∧ p.1 ∈ ts
  | [], q, k, _, _, p, hp => by cases hp
  | t :: ts, q, k, hr, hq, p, hp => by
    have b := fq_bw h (hr t List.mem_cons_self)
    have b2 := bw_mul q (fq ss t)
    rw [cvs] at hp
    simp only [List.length_cons]
    rcases List.mem_cons.mp hp with rfl | hp
    · exact ⟨by show bw (q * fq ss t) ≤ _; omega, List.mem_cons_self⟩
    · have := cvs_bw h ts (q * fq ss t) (k + 6) (fun u hu => hr u (List.mem_cons_of_mem _ hu)) (by omega) p hp
      exact ⟨by omega, List.mem_cons_of_mem _ this.2⟩
theorem cv_bw (h : Sn ss) : ∀ p, p ∈ cv ss → bw p.2 ≤ 121 ∧ 0 ≤ p.1 ∧ p.1 ≤ 1000 := fun p hp => by
  have h1 := cvs_bw h.l1 (asc (ets ss)) 1 1 (fun t ht => asc_rk t ht) (by rw [bw_1]; omega) p hp
  have hl := asc_len20 h.l1
  obtain ⟨s, hs, e⟩ := List.mem_map.mp ((asc_mem _ _).mp h1.2)
  have hb := h.b s (List.mem_filter.mp hs).1
  refine ⟨by omega, ?_⟩
  rw [← e]
  exact hb
theorem cv_len (h : Sn ss) : (cv ss).length ≤ 20 := by
  unfold cv
  rw [cvs_len]
  exact asc_len20 h.l1
/-- what the curve says of a time -/
def sv (ps : List (Int × Rat)) (t : Int) : Rat := ps.foldl (fun q p => if p.1 ≤ t then p.2 else q) 1
theorem surv_loop {s0 : PV} {t : Int} : ∀ (ps : List (Int × Rat)) (q : Rat) (x3 x4 : Rk.Slot), ∃ y3 y4, forL S_raw_survives (.tp ((Tg.nm 3).cons ((Tg.nm 4).cons Tg.nil))) bd_raw_survives_0 (ps.map cV) [.fz s0, .fz (.int t), .fz (fr q), x3, x4] =
    ret (.nx [.fz s0, .fz (.int t), .fz (fr (ps.foldl (fun q p => if p.1 ≤ t then p.2 else q) q)), y3, y4])
  | [], q, x3, x4 => ⟨x3, x4, by simp [for_nil]⟩
  | p :: ps, q, x3, x4 => by
    obtain ⟨y3, y4, ih⟩ := surv_loop (s0 := s0) (t := t) ps (if p.1 ≤ t then p.2 else q) (.fz (.int p.1)) (.fz (fr p.2))
    refine ⟨y3, y4, ?_⟩
    rw [List.map_cons, for_cons]
    by_cases z : p.1 ≤ t
    · simp [cV, b_raw_survives_0, z]
      simp [z, cV] at ih
      exact ih
    · simp [cV, b_raw_survives_0, z]
      simp [z, cV] at ih
      exact ih
theorem rsurv_t (h : ss.length ≤ 20) {c : Bool} (t : Int) : F_raw_survives [seqV c ss, .int t] = ret (fr (sv (cv ss) t)) := by
  obtain ⟨y3, y4, e⟩ := surv_loop (s0 := seqV c ss) (t := t) (cv ss) 1 .un .un
  simp [u_raw_survives, rcurve_t h, e, sv]
theorem surv_t (h : Sn ss) (l0 : 1 ≤ ss.length) {t : Int} (t0 : 0 ≤ t) (t1 : t ≤ 1000) : F_survives [.tup (ss.map sV), .int t] = ret (fr (sv (cv ss) t)) := by
  have e : F_raw_survives [.tup (ss.map sV), .int t] = ret (fr (sv (cv ss) t)) := rsurv_t h.l1 (c := true) t
  simp [u_survives, checkT_t h l0 t0 t1, e]
end Lk20

set_option maxHeartbeats 1000000
namespace Lk20
open PySem PySem.Spec PyProof.Rows L2 Rk M
variable {ss : List Sg}
theorem fq_perm {ss rs : List Sg} (h : ss.Perm rs) (t : Int) : fq ss t = fq rs t := by
  unfold fq rk en
  rw [(h.filter _).length_eq, (h.filter (fun s => s.2 && decide (s.1 = t))).length_eq]
theorem cvs_congr {ss rs : List Sg} (h : ∀ t, fq ss t = fq rs t) : ∀ (ts : List Int) (q : Rat), cvs ss q ts = cvs rs q ts
  | [], q => rfl
  | t :: ts, q => by rw [cvs, cvs, h t, cvs_congr h ts]
theorem cv_perm {ss rs : List Sg} (h : ss.Perm rs) : cv ss = cv rs := by
  unfold cv
  have e : asc (ets ss) = asc (ets rs) := asc_eq fun u => by
    unfold ets
    exact ((h.filter _).map _).mem_iff
  rw [e]
  exact cvs_congr (fun t => fq_perm h t) _ _
theorem sv_last : ∀ (ps : List (Int × Rat)) (t : Int) (q : Rat), ps.foldl (fun q p => if p.1 ≤ t then p.2 else q) q = ((ps.filter fun p => decide (p.1 ≤ t)).map (·.2)).getLastD q
  | [], t, q => rfl
  | p :: ps, t, q => by
    rw [List.foldl_cons, sv_last ps t, List.filter_cons]
    by_cases z : p.1 ≤ t
    · rw [if_pos z, if_pos (by simpa using z), List.map_cons]
      cases (ps.filter fun p => decide (p.1 ≤ t)).map (·.2) with
      | nil => rfl
      | cons a l => simp [List.getLastD]
    · rw [if_neg z, if_neg (by simpa using z)]
/-! ### all have ended -/
def allE (ss : List Sg) : Prop := ∀ s, s ∈ ss → s.2 = true
def gt (ss : List Sg) (t : Int) : Nat := (ss.filter fun s => decide (t < s.1)).length
theorem en_all (h : allE ss) (t : Int) : en ss t + gt ss t = rk ss t := by
  unfold en gt rk
  induction ss with
  | nil => rfl
  | cons s ss ih =>
    have h1 := h s List.mem_cons_self
    have h2 := ih fun x hx => h x (List.mem_cons_of_mem _ hx)
    rw [List.filter_cons, List.filter_cons, List.filter_cons, h1]
    by_cases a : s.1 = t
    · simp [a]
      omega
    · by_cases b : t < s.1
      · have c : t ≤ s.1 := by omega
        simp [a, b, c]
        omega
      · have c : ¬ t ≤ s.1 := by omega
        simp [a, b, c]
        omega
theorem gt_rk {t u : Int} (h : ∀ s, s ∈ ss → t < s.1 → u ≤ s.1) (h2 : t < u) : gt ss t = rk ss u := by
  unfold gt rk
  congr 1
  refine List.filter_congr fun s hs => ?_
  rw [decide_eq_decide]
  exact ⟨fun z => h s hs z, fun z => by omega⟩
theorem divInt_mul3 {a b n : Int} (hb : 0 < b) (hn : 0 < n) : Rat.divInt b n * Rat.divInt a b = Rat.divInt a n := by
  rw [Rat.divInt_eq_div, Rat.divInt_eq_div, Rat.divInt_eq_div]
  have h1 : (b : Rat) ≠ 0 := by exact_mod_cast (show b ≠ 0 by omega)
  have h2 : (n : Rat) ≠ 0 := by exact_mod_cast (show n ≠ 0 by omega)
  have e1 := Rat.div_mul_cancel (a := (a : Rat)) h1
  have e2 := Rat.div_mul_cancel (a := (b : Rat)) h2
  have e3 := Rat.div_mul_cancel (a := (a : Rat)) h2
  generalize (a : Rat) / b = x at *
  generalize (b : Rat) / n = y at *
  generalize (a : Rat) / n = z at *
  have : (y * x - z) * (n : Rat) = 0 := by grind
  rcases Rat.mul_eq_zero.mp this with h | h
  · grind
  · exact absurd h h2
theorem cvs_all (h : allE ss) {n : Nat} (n0 : 0 < n) : ∀ (ts : List Int) (q : Rat), ts.Pairwise (· < ·) → (∀ t, t ∈ ts → 0 < rk ss t) → (∀ t u, t ∈ ts → u ∈ ets ss → t < u → u ∈ ts) → (∀ t r, ts = t :: r → q = Rat.divInt (rk ss t : Int) (n : Int)) →
    cvs ss q ts = ts.map fun t => (t, Rat.divInt (gt ss t : Int) (n : Int))
  | [], q, _, _, _, _ => rfl
  | t :: ts, q, pw, hr, hm, hq => by
    have q1 := hq t ts rfl
    have p := hr t List.mem_cons_self
    have e := en_all h t
    have e1 : q * fq ss t = Rat.divInt (gt ss t : Int) (n : Int) := by
      rw [q1]
      unfold fq
      rw [show (rk ss t : Int) - en ss t = (gt ss t : Int) by omega]
      exact divInt_mul3 (by omega) (by omega)
    have pw2 := List.pairwise_cons.mp pw
    rw [cvs, List.map_cons, e1]
    congr 1
    refine cvs_all h n0 ts _ pw2.2 (fun u hu => hr u (List.mem_cons_of_mem _ hu)) (fun a b ha hb hab => ?_) fun u r e2 => ?_
    · rcases List.mem_cons.mp (hm a b (List.mem_cons_of_mem _ ha) hb hab) with z | z
      · have := pw2.1 a ha
        omega
      · exact z
    · congr 2
      subst e2
      have hu := pw2.1 u List.mem_cons_self
      refine gt_rk (fun s hs hts => ?_) hu
      have hse : s.1 ∈ ets ss := List.mem_map.mpr ⟨s, List.mem_filter.mpr ⟨hs, h s hs⟩, rfl⟩
      rcases List.mem_cons.mp (hm t s.1 List.mem_cons_self hse hts) with z | z
      · omega
      · rcases List.mem_cons.mp z with z | z
        · omega
        · have := (List.pairwise_cons.mp pw2.2).1 _ z
          omega
theorem cv_all (h : allE ss) (n0 : 0 < ss.length) : cv ss = (asc (ets ss)).map fun t => (t, Rat.divInt (gt ss t : Int) (ss.length : Int)) := by
  unfold cv
  refine cvs_all h n0 _ _ (asc_pw _) (fun t ht => asc_rk t ht) (fun t u ht hu _ => (asc_mem _ _).mpr hu) fun t r e => ?_
  have hall : rk ss t = ss.length := by
    unfold rk
    rw [List.filter_eq_self.mpr]
    intro s hs
    have hse : s.1 ∈ asc (ets ss) := (asc_mem _ _).mpr (List.mem_map.mpr ⟨s, List.mem_filter.mpr ⟨hs, h s hs⟩, rfl⟩)
    have pw := asc_pw (ets ss)
    rw [e] at hse pw
    simp
    rcases List.mem_cons.mp hse with z | z
    · omega
    · have := (List.pairwise_cons.mp pw).1 _ z
      omega
  rw [hall, Rat.divInt_self' (by omega)]
end Lk20

set_option maxHeartbeats 1000000
namespace Lk20
open PySem PySem.Spec PyProof.Rows L2 Rk M
variable {ss : List Sg}
/-! ### the program's answers -/
theorem seqT (ss : List Sg) : seqV true ss = .tup (ss.map sV) := rfl
theorem curve_t (h : Sn ss) (l0 : 1 ≤ ss.length) : F_curve [.tup (ss.map sV)] = ret (.tup ((cv ss).map cV)) := by
  have e : F_raw_curve [.tup (ss.map sV)] = ret (.lst ((cv ss).map cV)) := rcurve_t h.l1 (c := true)
  simp [u_curve, check_t h l0, e]
theorem at_risk_t (h : Sn ss) (l0 : 1 ≤ ss.length) {t : Int} (t0 : 0 ≤ t) (t1 : t ≤ 1000) : F_at_risk [.tup (ss.map sV), .int t] = ret (.int (rk ss t)) := by
  have e : F_raw_at_risk [.tup (ss.map sV), .int t] = ret (.int (rk ss t)) := risk_t h.l1 (c := true) t
  simp [u_at_risk, checkT_t h l0 t0 t1, e]
theorem ends_at_t (h : Sn ss) (l0 : 1 ≤ ss.length) {t : Int} (t0 : 0 ≤ t) (t1 : t ≤ 1000) : F_ends_at [.tup (ss.map sV), .int t] = ret (.int (en ss t)) := by
  have e : F_raw_ends [.tup (ss.map sV), .int t] = ret (.int (en ss t)) := ends_t h.l1 (c := true) t
  simp [u_ends_at, checkT_t h l0 t0 t1, e]
def hts (ps : List (Int × Rat)) : List Int := (ps.filter fun p => decide (2 * p.2.num ≤ (p.2.den : Int))).map (·.1)
def hd (ts : List Int) : PV := match ts with
  | [] => .non
  | t :: _ => .int t
theorem comp_t {q : Rat} (h : bw q ≤ 1000) : ∃ v : Int, F_raw_compared [fr q, .tup [.int 1, .int 2]] = ret (.int v) ∧ (v ≤ 0 ↔ 2 * q.num ≤ (q.den : Int)) := by
  have m1 : IntMulOk q.num 2 := mulOk_r (by omega) (by omega)
  have m2 : IntMulOk 1 (q.den : Int) := mulOk_l (by omega) (by omega)
  refine ⟨(if 0 < q.num * 2 - q.den then 1 else 0) - (if q.num * 2 - q.den < 0 then 1 else 0), by simp [u_raw_compared, m1, m2], ?_⟩
  split <;> split <;> omega
theorem half_t (h : Sn ss) (l0 : 1 ≤ ss.length) : F_half_time [.tup (ss.map sV)] = ret (hd (hts (cv ss))) := by
  have e : F_raw_curve [.tup (ss.map sV)] = ret (.lst ((cv ss).map cV)) := rcurve_t h.l1 (c := true)
  have hl := cv_len h
  simp [u_half_time, check_t h l0, e]
  rw [cmpL_fil (fun p : Int × Rat => decide (2 * p.2.num ≤ (p.2.den : Int))) (fun p => .int p.1) rfl (fun p hp => by
    have hb := (cv_bw h p hp).1
    obtain ⟨v, hc, hv⟩ := comp_t (q := p.2) (by omega)
    simp [cmp2, cV, hc, hv]) (by omega)]
  have e2 : ((cv ss).filter fun p => decide (2 * p.2.num ≤ (p.2.den : Int))).map (fun p => PV.int p.1) = (hts (cv ss)).map .int := by simp [hts]
  rw [e2]
  cases hts (cv ss) <;> simp [hd]
def wl (ss : List Sg) : PV := if 0 < (ss.filter (·.2)).length then .tup ((ss.filter (·.2)).map sV) else .non
theorem without_t (h : Sn ss) (l0 : 1 ≤ ss.length) : F_without_lost [.tup (ss.map sV)] = ret (wl ss) := by
  have := h.l1
  simp [u_without_lost, check_t h l0]
  rw [cmpL_fil (fun s : Sg => s.2) sV rfl (fun s hs => by
    obtain ⟨x, y⟩ := s
    cases y <;> simp [cmp2, sV]) (by omega)]
  simp [wl]
  split <;> simp_all
/-! ### what is told, told alike -/
theorem repr_cv {ps : List (Int × Rat)} (hl : ps.length ≤ 20) (hb : ∀ p, p ∈ ps → bw p.2 ≤ 121 ∧ 0 ≤ p.1 ∧ p.1 ≤ 1000) : bltM .repr [.tup (ps.map cV)] = ret (.str (PV.tup (ps.map cV)).data.shown) ∧ PyData.strOk (PV.tup (ps.map cV)).data.shown = true := by
  refine repr_is (rk_tup fun x hx => ?_) ?_
  · obtain ⟨p, hp, rfl⟩ := List.mem_map.mp hx
    obtain ⟨b1, b2, b3⟩ := hb p hp
    refine rk_tup fun y hy => ?_
    simp at hy
    rcases hy with rfl | rfl
    · exact rk_int (k := 20) (Sz.of_lt (by omega) (by omega)) (by omega)
    · exact rk_fr (by omega)
  · have := rns_le (c := 1900) (xs := ps.map cV) fun x hx => by
      obtain ⟨p, hp, rfl⟩ := List.mem_map.mp hx
      show 601 + 2 + (1209 + 2 + 0) + 3 ≤ 1900
      omega
    rw [List.length_map] at this
    rw [rn_tup]
    omega
theorem repr_sV {ss : List Sg} (h : Sn ss) : bltM .repr [.tup (ss.map sV)] = ret (.str (PV.tup (ss.map sV)).data.shown) ∧ PyData.strOk (PV.tup (ss.map sV)).data.shown = true := by
  refine repr_is (rk_tup fun x hx => ?_) ?_
  · obtain ⟨p, hp, rfl⟩ := List.mem_map.mp hx
    have hb := h.b p hp
    refine rk_tup fun y hy => ?_
    simp at hy
    rcases hy with rfl | rfl
    · exact rk_int (k := 20) (Sz.of_lt (by omega) (by omega)) (by omega)
    · rfl
  · have := rns_le (c := 1900) (xs := ss.map sV) fun x hx => by
      obtain ⟨p, hp, rfl⟩ := List.mem_map.mp hx
      show 601 + 2 + (601 + 2 + 0) + 3 ≤ 1900
      omega
    rw [List.length_map] at this
    have := h.l1
    rw [rn_tup]
    omega
theorem Sn.fil (h : Sn ss) : Sn (ss.filter (·.2)) := ⟨Nat.le_trans (List.length_filter_le _ _) h.l1, fun s hs => h.b s (List.mem_filter.mp hs).1⟩
theorem repr_wl (h : Sn ss) : bltM .repr [wl ss] = ret (.str (wl ss).data.shown) ∧ PyData.strOk (wl ss).data.shown = true := by
  unfold wl
  split
  · exact repr_sV h.fil
  · exact repr_non
theorem repr_hd {ts : List Int} (h : ∀ t, t ∈ ts → 0 ≤ t ∧ t ≤ 1000) : bltM .repr [hd ts] = ret (.str (hd ts).data.shown) ∧ PyData.strOk (hd ts).data.shown = true := by
  cases ts with
  | nil => exact repr_non
  | cons t ts =>
    have := h t List.mem_cons_self
    exact repr_int (k := 20) (Sz.of_lt (by omega) (by omega)) (by omega)
/-! ### mixed -/
section
variable {a c : Addr} {E : Exn → Prop} {Q : PV → Prop}
theorem mix_whl {α : Type} {f : α → PV} {x1 : Rk.Slot} : ∀ (n : Nat) (xs ys : List α), xs.length < n → ys.length + xs.length ≤ 1000 →
    hw (whlL S__law_mixed (.cmp .gt (.blt .len (.cons (.own 2) .nil)) (.int 0)) bd__law_mixed_0 n [.fz (.tok a c), x1, .ol (xs.map f), .ol (ys.map f)]) (fun o => ∃ zs : List α, o = .nx [.fz (.tok a c), x1, .ol [], .ol (zs.map f)] ∧ zs.Perm (ys ++ xs)) E
  | n + 1, xs, ys, h, hl => by
    rw [hw_eq, whl_succ]
    by_cases z : xs = []
    · subst z
      simp
      exact ⟨ys, rfl, .refl _⟩
    · have p : 0 < xs.length := List.length_pos_iff.mpr z
      simp [p, b__law_mixed_0, u__law_pick]
      refine ⟨by omega, fun r r0 r1 => ?_⟩
      obtain ⟨r, rfl⟩ := Int.eq_ofNat_of_zero_le r0
      have hr : r < xs.length := by omega
      have e1 : ixN xs.length (r : Int) = some r := ixN_nat hr
      simp [e1, hr, smallI]
      refine ⟨by omega, by omega, ?_⟩
      have ih := mix_whl (f := f) (x1 := x1) n (xs.eraseIdx r) (ys ++ [xs[r]]) (by rw [List.length_eraseIdx_of_lt hr]; omega) (by rw [List.length_eraseIdx_of_lt hr]; simp; omega)
      rw [hw_eq] at ih
      have e2 : (xs.map f).eraseIdx r = (xs.eraseIdx r).map f := era_map f xs r
      rw [e2]
      simp at ih
      refine wp_mono (fun o ho => ?_) (fun _ z => z) _ ih
      obtain ⟨zs, rfl, hz⟩ := ho
      refine ⟨zs, rfl, hz.trans ?_⟩
      refine List.Perm.append_left ys ?_
      exact era_perm xs r hr
theorem mixed_w {α : Type} {f : α → PV} {xs : List α} (hl : xs.length ≤ 500) (h : ∀ zs : List α, zs.Perm xs → Q (.lst (zs.map f))) : (F__law_mixed [.tok a c, .lst (xs.map f)]).wp Q E := by
  obtain ⟨n, e⟩ := fuel_sz (k := 20) (b := 600) (Sz.of_lt (by omega) (by omega)) (by omega)
  have hf : fuel = n + 600 + 1 := e
  have hm := mix_whl (a := a) (c := c) (E := E) (f := f) (x1 := .fz (.lst (xs.map f))) fuel xs [] (by omega) (by simp; omega)
  rw [hw_eq] at hm
  simp [u__law_mixed]
  rw [wp_bd]
  refine wp_mono (fun o ho => ?_) (fun _ z => z) _ hm
  obtain ⟨zs, rfl, hz⟩ := ho
  simp
  exact h zs (by simpa using hz)
theorem seen_w (h : ∀ ss, Sn ss → 1 ≤ ss.length → ss.length ≤ 9 → Q (.tup (ss.map sV))) : (F__law_seen [.tok a c]).wp Q E := by
  simp [u__law_seen]
  rw [wp_bd]
  refine any_w (by simp) (by simp) fun x hx => ?_
  have hx2 : ∃ k : Int, x = .int k ∧ 0 < k ∧ k ≤ 30 := by
    simp at hx
    rcases hx with rfl | rfl | rfl <;> exact ⟨_, rfl, by omega, by omega⟩
  obtain ⟨k, rfl, k0, k1⟩ := hx2
  simp [u__law_pick, smallI]
  intro n n0 n1
  refine ⟨⟨by omega, by omega⟩, ?_⟩
  rw [wp_bd, show 1 + n = ((1 + n).toNat : Int) by omega, Int.toNat_natCast, rng_nat]
  refine cmpL_any (P := fun s : Sg => 0 ≤ s.1 ∧ s.1 ≤ 1000) (g := sV) (fun t ht R hR => ?_) (by simp; omega) fun ss hl hb => ?_
  · simp [cmp1, u__law_pick]
    refine ⟨k0, by omega, fun r r0 r1 q q0 q1 => ?_⟩
    have := hR (r, decide (0 < q)) ⟨by show 0 ≤ r; omega, by show r ≤ 1000; omega⟩
    simpa [sV] using this
  · simp at hl
    simp
    exact h ss ⟨by omega, hb⟩ (by omega) (by omega)
end
end Lk20

set_option maxHeartbeats 1000000
namespace Lk20
open PySem PySem.Spec PyProof.Rows L2 Rk M
variable {ss : List Sg}
theorem eqv_rt : ∀ {xs : List PV}, (∀ x, x ∈ xs → x.eqv x = true) → (PV.tup xs).eqv (.tup xs) = true
  | [], _ => rfl
  | x :: xs, h => by
    rw [eqv_tupC, h x List.mem_cons_self, eqv_rt fun y hy => h y (List.mem_cons_of_mem _ hy)]
    rfl
theorem cv_eqv (ps : List (Int × Rat)) : (PV.tup (ps.map cV)).eqv (.tup (ps.map cV)) = true := eqv_rt fun x hx => by
  obtain ⟨p, _, rfl⟩ := List.mem_map.mp hx
  simp [cV]
theorem cv_shp (ps : List (Int × Rat)) : (PV.tup (ps.map cV)).shp = true := by
  refine shp_of ?_
  simp [shs_map, cV]
theorem getLastD_cases {α : Type} (xs : List α) (q : α) : (xs = [] ∧ xs.getLastD q = q) ∨ ∃ ys y, xs = ys ++ [y] ∧ xs.getLastD q = y := by
  rcases List.eq_nil_or_concat xs with h | ⟨ys, y, h⟩
  · exact .inl ⟨h, by rw [h]; rfl⟩
  · refine .inr ⟨ys, y, by simpa using h, ?_⟩
    rw [h]
    simp
section
variable {a c : Addr} {E : Exn → Prop} {Q : PV → Prop}
theorem sv_bw (h : Sn ss) (t : Int) : bw (sv (cv ss) t) ≤ 121 := by
  unfold sv
  rw [sv_last]
  rcases getLastD_cases (((cv ss).filter fun p => decide (p.1 ≤ t)).map (·.2)) 1 with ⟨_, e⟩ | ⟨ys, y, e1, e⟩
  · rw [e, bw_1]
    omega
  · rw [e]
    have hy : y ∈ ((cv ss).filter fun p => decide (p.1 ≤ t)).map (·.2) := by rw [e1]; simp
    obtain ⟨p, hp, rfl⟩ := List.mem_map.mp hy
    exact (cv_bw h p (List.mem_filter.mp hp).1).1
/-- a time's look -/
theorem time_t (h : Sn ss) (l0 : 1 ≤ ss.length) {t : Int} (t0 : 0 ≤ t) (t1 : t ≤ 1000) {s0 : PV} {s4 s5 s6 : Rk.Slot} {s7 s8 s9 : Rk.Slot} :
    ∃ y6, evS S__law_is_right bd__law_is_right_0 [.fz s0, .fz (.tup (ss.map sV)), .fz (.lst ((cv ss).map cV)), .fz (.int t), s4, s5, s6, s7, s8, s9] =
      ret (.nx [.fz s0, .fz (.tup (ss.map sV)), .fz (.lst ((cv ss).map cV)), .fz (.int t), s4, s5, y6, s7, s8, s9]) := by
  have hl := cv_len h
  have hs := surv_t h l0 t0 t1
  have hr := at_risk_t h l0 t0 t1
  have he := ends_at_t h l0 t0 t1
  have lr : F__law_risk [.tup (ss.map sV), .int t] = ret (.int (rk ss t)) := lrisk_t h.l1 (c := true) t
  have le : F__law_ends [.tup (ss.map sV), .int t] = ret (.int (en ss t)) := lends_t h.l1 (c := true) t
  have hb := repr_fr (q := sv (cv ss) t) (by have := sv_bw h t; omega)
  have h1 := rk_le ss t
  have h2 := en_le ss t
  have h3 := h.l1
  have hb2 := repr_is (p := .lst [.int (rk ss t : Int), .int (en ss t : Int)]) (rk_lst fun x hx => by
    simp at hx
    rcases hx with rfl | rfl <;> exact rk_int (k := 20) (Sz.of_lt (by omega) (by omega)) (by omega)) (by show 601 + 2 + (601 + 2 + 0) + 3 ≤ _; omega)
  have ez : PV.tup [.int 1, .int 1] = fr 1 := rfl
  obtain ⟨L, hL⟩ : ∃ L, L = ((cv ss).filter fun p => decide (p.1 ≤ t)).map (·.2) := ⟨_, rfl⟩
  refine ⟨.fz (.lst (L.map fr)), ?_⟩
  have hsv : sv (cv ss) t = L.getLastD 1 := by
    rw [hL]
    exact sv_last _ _ _
  have e3 : ((cv ss).filter fun p => decide (p.1 ≤ t)).map (fun p => fr p.2) = L.map fr := by simp [hL]
  clear hL
  simp [b__law_is_right_0]
  rw [cmpL_fil (fun p : Int × Rat => decide (p.1 ≤ t)) (fun p => fr p.2) rfl (fun p hp => by by_cases z : p.1 ≤ t <;> simp [cmp2, cV, z]) (by omega), e3]
  clear e3
  obtain ⟨hb, hb'⟩ := hb
  obtain ⟨hb2, hb2'⟩ := hb2
  rcases getLastD_cases L 1 with ⟨e1, e2⟩ | ⟨ys, y, e1, e2⟩
  · rw [e2] at hsv
    rw [hsv] at hs hb hb'
    subst e1
    simp [hs, hb, hb', ez, hr, he, lr, le, hb2, hb2']
  · rw [e2] at hsv
    rw [hsv] at hs hb hb'
    subst e1
    simp [hs, hb, hb', hr, he, lr, le, hb2, hb2']
theorem s8_t (h : Sn ss) (he : allE ss) (l0 : 0 < ss.length) {s0 s1 s2 s4 : PV} {s3 s6 s7 s8 s9 : Rk.Slot} :
    @bnd _ _ (evS S__law_is_right sx__law_is_right_s8 [.fz s0, .fz s1, .fz s2, s3, .fz s4, .fz (.tup (ss.map sV)), s6, s7, s8, s9]) ⟨fin⟩ = ret (.bl true) := by
  have hc := curve_t h (by omega)
  have h1 := h.l1
  rw [cv_all he l0] at hc
  obtain ⟨ps, hps⟩ : ∃ ps, ps = (asc (ets ss)).map fun t => (t, Rat.divInt (gt ss t : Int) (ss.length : Int)) := ⟨_, rfl⟩
  rw [← hps] at hc
  obtain ⟨ρ, e, y3, y7, rfl⟩ := for_eq (S := S__law_is_right) (tg := .tp ((Tg.nm 3).cons ((Tg.nm 7).cons Tg.nil))) (body := bd__law_is_right_1) (ps.map cV) (I := fun i ρ => ∃ x3 x7, ρ = [.fz s0, .fz s1, .fz s2, x3, .fz s4, .fz (.tup (ss.map sV)), s6, x7, s8, s9]) (fun i x hx ρ hρ => by
    obtain ⟨x3, x7, rfl⟩ := hρ
    obtain ⟨p, hp, rfl⟩ := map_get hx
    obtain ⟨t, ht, rfl⟩ := List.mem_map.mp (hps ▸ List.mem_of_getElem? hp)
    have hg : gt ss t ≤ ss.length := List.length_filter_le _ _
    have ho := lover_i (k := 6) (a := (gt ss t : Int)) (b := (ss.length : Int)) (Sz.of_lt (by omega) (by omega)) (by omega) (by omega) (by omega)
    refine ⟨_, ?_, .fz (.int t), .fz (fr (Rat.divInt (gt ss t : Int) (ss.length : Int))), rfl⟩
    generalize hq : Rat.divInt (gt ss t : Int) (ss.length : Int) = q at *
    simp [cV, b__law_is_right_1]
    rw [cmpL_fil (fun s : Sg => decide (t < s.1)) (fun _ => .int 1) rfl (fun s hs => by
      obtain ⟨x, y⟩ := s
      by_cases z : t < x <;> simp [cmp2, sV, z]) (by omega)]
    have eg : (ss.filter fun s => decide (t < s.1)).length = gt ss t := rfl
    simp [eg, ho]) [.fz s0, .fz s1, .fz s2, s3, .fz s4, .fz (.tup (ss.map sV)), s6, s7, s8, s9] ⟨s3, s7, rfl⟩
  simp [b__law_is_right_s8, hc]
  rw [e]
  simp [b__law_is_right_s9]
theorem s3_t (h : Sn ss) (l0 : 1 ≤ ss.length) {s0 : PV} {s3 s6 s7 s8 s9 : Rk.Slot} :
    @bnd _ _ (evS S__law_is_right sx__law_is_right_s3 [.fz s0, .fz (.tup (ss.map sV)), .fz (.lst ((cv ss).map cV)), s3, .un, .un, s6, s7, s8, s9]) ⟨fin⟩ = ret (.bl true) := by
  have hl := cv_len h
  have h1 := h.l1
  have hh := half_t h l0
  have hw := without_t h l0
  have hc := curve_t h l0
  have hts' : ∀ t, t ∈ hts (cv ss) → 0 ≤ t ∧ t ≤ 1000 := fun t ht => by
    obtain ⟨p, hp, rfl⟩ := List.mem_map.mp ht
    exact (cv_bw h p (List.mem_filter.mp hp).1).2
  obtain ⟨r1, r1'⟩ := repr_hd hts'
  obtain ⟨r2, r2'⟩ := repr_wl h
  have e2 : ((cv ss).filter fun p => decide (2 * p.2.num ≤ (p.2.den : Int))).map (fun p => PV.int p.1) = (hts (cv ss)).map .int := by simp [hts]
  have e3 : (if 0 < ((hts (cv ss)).length : Int) then @bnd _ _ (ofO (atI (hts (cv ss)) 0)) ⟨fun z => ret (PV.int z)⟩ else ret .non) = ret (hd (hts (cv ss))) := by
    cases hts (cv ss) <;> simp [hd]
  simp [b__law_is_right_s3]
  rw [cmpL_fil (fun p : Int × Rat => decide (2 * p.2.num ≤ (p.2.den : Int))) (fun p => .int p.1) rfl (fun p hp => by
    have m2 : IntMulOk 2 p.2.num := mulOk_l (by omega) (by omega)
    by_cases z : 2 * p.2.num ≤ (p.2.den : Int) <;> simp [cmp2, cV, m2, z]) (by omega), e2]
  have hT : @bnd _ _ (evS S__law_is_right sx__law_is_right_s4 [.fz s0, .fz (.tup (ss.map sV)), .fz (.lst ((cv ss).map cV)), s3, .fz (.lst ((hts (cv ss)).map .int)), .un, s6, s7, s8, s9]) ⟨fin⟩ = @bnd _ _ (evS S__law_is_right sx__law_is_right_s5 [.fz s0, .fz (.tup (ss.map sV)), .fz (.lst ((cv ss).map cV)), s3, .fz (.lst ((hts (cv ss)).map .int)), .un, s6, s7, s8, s9]) ⟨fin⟩ := by
    clear e2 e3 hts'
    generalize hts (cv ss) = T at *
    cases T with
    | nil =>
      simp only [hd] at hh r1 r1'
      simp [-repr_1, b__law_is_right_s4, hh, r1, r1']
    | cons t T =>
      simp only [hd] at hh r1 r1'
      simp [-repr_1, b__law_is_right_s4, hh, r1, r1']
  simp
  rw [hT]
  simp [b__law_is_right_s5]
  rw [cmpL_fil (fun s : Sg => s.2) sV rfl (fun s hs => by
    obtain ⟨x, y⟩ := s
    cases y <;> simp [cmp2, sV]) (by omega)]
  simp
  have hf := h.fil
  have hall : allE (ss.filter (·.2)) := fun s hs => (List.mem_filter.mp hs).2
  by_cases z : 0 < (ss.filter (·.2)).length
  · have e4 : wl ss = .tup ((ss.filter (·.2)).map sV) := by unfold wl; rw [if_pos z]
    rw [e4] at hw r2 r2'
    have h8 := s8_t hf hall z (s0 := s0) (s1 := .tup (ss.map sV)) (s2 := .lst ((cv ss).map cV)) (s3 := s3) (s4 := .lst ((hts (cv ss)).map .int)) (s6 := s6) (s7 := s7) (s8 := s8) (s9 := s9)
    simp [-repr_1, b__law_is_right_s6, hw, r2, r2', z, b__law_is_right_s7]
    rw [if_neg (by rw [decide_eq_true_eq]; omega)]
    exact h8
  · have e4 : wl ss = .non := by unfold wl; rw [if_neg z]
    have e5 : ss.filter (·.2) = [] := List.eq_nil_of_length_eq_zero (by omega)
    have e6 : cv ss = [] := by
      unfold cv ets
      rw [e5]
      have : asc [] = [] := by simp [asc, uniq, isort]
      rw [List.map_nil, this]
      rfl
    rw [e4] at hw r2 r2'
    rw [e6] at hc
    simp [-repr_1, b__law_is_right_s6, hw, r2, r2', e5, b__law_is_right_s7, hc]
end
end Lk20

set_option maxHeartbeats 1000000
namespace Lk20
open PySem PySem.Spec PyProof.Rows L2 Rk M
variable {ss : List Sg}
section
variable {a c : Addr} {E : Exn → Prop} {Q : PV → Prop}
theorem loop4 (h : Sn ss) (l0 : 1 ≤ ss.length) {s0 : PV} : ∀ (ts : List Int) (s3 s6 : Rk.Slot), (∀ t, t ∈ ts → 0 ≤ t ∧ t ≤ 1000) →
    ∃ y3 y6, forL S__law_is_right (.nm 3) bd__law_is_right_0 (ts.map .int) [.fz s0, .fz (.tup (ss.map sV)), .fz (.lst ((cv ss).map cV)), s3, .un, .un, s6, .un, .un, .un] = ret (.nx [.fz s0, .fz (.tup (ss.map sV)), .fz (.lst ((cv ss).map cV)), y3, .un, .un, y6, .un, .un, .un])
  | [], s3, s6, _ => ⟨s3, s6, for_nil⟩
  | t :: ts, s3, s6, ht => by
    have h1 := ht t List.mem_cons_self
    obtain ⟨y6, e⟩ := time_t h l0 h1.1 h1.2 (s0 := s0) (s4 := .un) (s5 := .un) (s6 := s6) (s7 := .un) (s8 := .un) (s9 := .un)
    obtain ⟨y3, y6', ih⟩ := loop4 h l0 (s0 := s0) ts (.fz (.int t)) y6 fun u hu => ht u (List.mem_cons_of_mem _ hu)
    refine ⟨y3, y6', ?_⟩
    rw [List.map_cons, for_cons]
    simp [e]
    exact ih
theorem right_w (h : Sn ss) (l0 : 1 ≤ ss.length) (hQ : Q (.bl true)) : (F__law_is_right [.tok a c, .tup (ss.map sV)]).wp Q E := by
  have hl := cv_len h
  have hc := curve_t h l0
  have lc : F__law_curve [.tup (ss.map sV)] = ret (.lst ((cv ss).map cV)) := lcurve_t h.l1 (c := true)
  obtain ⟨r1, r1'⟩ := repr_cv hl (cv_bw h)
  simp [-repr_1, u__law_is_right, lc, b__law_is_right_s1, hc, r1, r1']
  rw [wp_bd]
  refine mixed_w (f := sV) (by have := h.l1; omega) fun zs hz => ?_
  have hs : Sn zs := ⟨by rw [hz.length_eq]; exact h.l1, fun s hs => h.b s (hz.mem_iff.mp hs)⟩
  have hc2 := curve_t hs (by rw [hz.length_eq]; exact l0)
  rw [cv_perm hz] at hc2
  simp [hc2, cv_shp, cv_eqv, b__law_is_right_s2, u__law_pick]
  obtain ⟨s, r, rfl⟩ : ∃ s r, ss = s :: r := by
    cases ss with
    | nil => simp at l0
    | cons s r => exact ⟨s, r, rfl⟩
  intro t t0 t1
  have hb := h.b s List.mem_cons_self
  obtain ⟨y3, y6, e⟩ := loop4 h l0 (s0 := .tok a c) [t, 0, s.1, 1000] .un .un (fun u hu => by
    simp at hu
    rcases hu with rfl | rfl | rfl | rfl <;> omega)
  have h3 := s3_t h l0 (s0 := .tok a c) (s3 := y3) (s6 := y6) (s7 := .un) (s8 := .un) (s9 := .un)
  simp at e h3
  simp [sV] at e h3 ⊢
  rw [e]
  simp [h3, hQ]
theorem word_x {k : Nat} {t : String} (h : (k = 1 ∧ t = "seen") ∨ (k = 2 ∧ t = "time")) : W__law_word (M.exn ⟨k, none⟩) = ret (.str (Str.ofString t)) := by
  rcases h with ⟨rfl, rfl⟩ | ⟨rfl, rfl⟩ <;> simp [u__law_word, sb0, lix_def, List.findIdx?_cons]
theorem w1 : W__law_word (M.exn ⟨1, none⟩) = ret (.str (Str.ofString "seen")) := word_x (by simp)
theorem w2 : W__law_word (M.exn ⟨2, none⟩) = ret (.str (Str.ofString "time")) := word_x (by simp)
theorem no_seen_w (hQ : ∀ x, F_check_seen [x] = exn ⟨1, none⟩ → Q x) : (F__law_no_seen [.tok a c]).wp Q E := by
  simp [u__law_no_seen]
  rw [wp_bd]
  refine any_w (by simp) (by simp) fun x hx => ?_
  simp
  refine hQ x ?_
  have i1 : F_is_sight [.tup [.int 1, .int 1]] = ret (.bl false) := by simp [u_is_sight, is_within_int]
  have i2 : F_is_sight [.tup [.int (-1), .bl true]] = ret (.bl false) := by simp [u_is_sight, is_within_int]
  have i3 : F_is_sight [.tup [.int 1001, .bl true]] = ret (.bl false) := by simp [u_is_sight, is_within_int]
  have i4 : F_is_sight [.tup [.int 1, .non]] = ret (.bl false) := by simp [u_is_sight, is_within_int]
  have i5 : F_is_sight [.tup [.bl true, .bl true]] = ret (.bl false) := by simp [u_is_sight]
  have i6 : ∀ s, F_is_sight [.tup [.str s, .bl true]] = ret (.bl false) := fun s => by simp [u_is_sight]
  have i7 : F_is_sight [.non] = ret (.bl false) := by simp [u_is_sight]
  have i8 : F_is_sight [.tup [.int 1]] = ret (.bl false) := by simp [u_is_sight]
  have i9 : F_is_sight [.lst [.int 1, .bl true]] = ret (.bl false) := by simp [u_is_sight]
  simp at hx
  rcases hx with rfl | rfl | rfl | rfl | rfl | rfl | rfl | rfl | rfl | rfl | rfl | rfl | rfl | rfl | rfl | rfl <;> simp [u_check_seen, cmpL_acc, cmp1, i1, i2, i3, i4, i5, i6, i7, i8, i9]
theorem refused_w (h : Sn ss) (l0 : 1 ≤ ss.length) (hQ : Q (.bl true)) : (F__law_is_refused [.tok a c, .tup (ss.map sV)]).wp Q E := by
  simp [u__law_is_refused]
  rw [wp_bd]
  refine no_seen_w fun nn hn => ?_
  simp
  rw [wp_bd]
  refine any_w (by simp) (by simp) fun bad hb => ?_
  have hb2 : F_is_within [bad, .int 0, .int 1000] = ret (.bl false) := by
    simp at hb
    rcases hb with rfl | rfl | rfl | rfl | rfl | rfl | rfl <;> simp [is_within_int]
  have ct1 : ∀ x, F_check_seen_time [nn, x] = exn ⟨1, none⟩ := fun x => by simp [u_check_seen_time, hn]
  have ct2 : F_check_seen_time [.tup (ss.map sV), bad] = exn ⟨2, none⟩ := by simp [u_check_seen_time, check_t h l0, hb2]
  have a1 : F_curve [nn] = exn ⟨1, none⟩ := by simp [u_curve, hn]
  have a2 : F_half_time [nn] = exn ⟨1, none⟩ := by simp [u_half_time, hn]
  have a3 : F_without_lost [nn] = exn ⟨1, none⟩ := by simp [u_without_lost, hn]
  have b1 : F_survives [nn, bad] = exn ⟨1, none⟩ := by simp [u_survives, ct1]
  have b2 : F_survives [.tup (ss.map sV), bad] = exn ⟨2, none⟩ := by simp [u_survives, ct2]
  have b3 : F_at_risk [nn, bad] = exn ⟨1, none⟩ := by simp [u_at_risk, ct1]
  have b4 : F_at_risk [.tup (ss.map sV), bad] = exn ⟨2, none⟩ := by simp [u_at_risk, ct2]
  have b5 : F_ends_at [nn, bad] = exn ⟨1, none⟩ := by simp [u_ends_at, ct1]
  have b6 : F_ends_at [.tup (ss.map sV), bad] = exn ⟨2, none⟩ := by simp [u_ends_at, ct2]
  simp
  rw [for_cons]
  simp [b__law_is_refused_0, u__law_word_of, a1, w1]
  rw [for_cons]
  simp [b__law_is_refused_0, u__law_word_of, a2, w1]
  rw [for_cons]
  simp [b__law_is_refused_0, u__law_word_of, a3, w1, for_nil]
  rw [for_cons]
  simp [b__law_is_refused_1, u__law_word_by, b1, b2, w1, w2]
  rw [for_cons]
  simp [b__law_is_refused_1, u__law_word_by, b3, b4, w1, w2]
  rw [for_cons]
  simp [b__law_is_refused_1, u__law_word_by, b5, b6, w1, w2, for_nil]
  exact ⟨by decide +kernel, hQ⟩
theorem law_ok (ns : List Int) : (F_law [.scr ns]).wp (fun p => p = .bl true) fun _ => False := by
  let s3 : List Sg := [(2, true), (3, false), (4, true)]
  have h : Sn s3 := ⟨by simp [s3], fun s hs => by
    simp [s3] at hs
    rcases hs with rfl | rfl | rfl <;> decide⟩
  have ea : asc (ets s3) = [2, 4] := by
    have : uniq (ets s3) = [2, 4] := by decide
    unfold asc
    rw [this]
    exact (isort_uniq (List.Perm.refl _) (by simp)).symm
  have ec : cv s3 = [(2, Rat.divInt 2 3), (4, 0)] := by
    unfold cv
    rw [ea]
    decide +kernel
  have k1 : F_curve [.tup [.tup [.int 2, .bl true], .tup [.int 3, .bl false], .tup [.int 4, .bl true]]] = ret (.tup [.tup [.int 2, .tup [.int 2, .int 3]], .tup [.int 4, .tup [.int 0, .int 1]]]) := by
    have := curve_t h (by simp [s3])
    rw [ec] at this
    exact this.trans rfl
  have k2 : F_survives [.tup [.tup [.int 2, .bl true], .tup [.int 3, .bl false], .tup [.int 4, .bl true]], .int 3] = ret (.tup [.int 2, .int 3]) := by
    have := surv_t h (by simp [s3]) (t := 3) (by omega) (by omega)
    rw [ec] at this
    exact this.trans rfl
  have k3 : F_survives [.tup [.tup [.int 2, .bl true], .tup [.int 3, .bl false], .tup [.int 4, .bl true]], .int 1] = ret (.tup [.int 1, .int 1]) := by
    have := surv_t h (by simp [s3]) (t := 1) (by omega) (by omega)
    rw [ec] at this
    exact this.trans rfl
  have k4 : F_at_risk [.tup [.tup [.int 2, .bl true], .tup [.int 3, .bl false], .tup [.int 4, .bl true]], .int 3] = ret (.int 2) := (at_risk_t h (by simp [s3]) (t := 3) (by omega) (by omega)).trans rfl
  have k5 : F_ends_at [.tup [.tup [.int 2, .bl true], .tup [.int 3, .bl false], .tup [.int 4, .bl true]], .int 3] = ret (.int 0) := (ends_at_t h (by simp [s3]) (t := 3) (by omega) (by omega)).trans rfl
  have k6 : F_half_time [.tup [.tup [.int 2, .bl true], .tup [.int 3, .bl false], .tup [.int 4, .bl true]]] = ret (.int 4) := by
    have := half_t h (by simp [s3])
    rw [ec] at this
    refine this.trans ?_
    have : hts [(2, Rat.divInt 2 3), (4, 0)] = [4] := by decide +kernel
    rw [this]
    rfl
  simp [u_law, u__law_tape]
  intro a c
  simp [b_law_s1, b_law_s2, b_law_s3, b_law_s4, k1, k2, k3, k4, k5, k6, smallI]
  refine for_rg (n := 6) (fun _ ρ => ∃ x2 x3 x4, ρ = [.fz (.scr ns), .fz (.tok a c), x2, x3, x4]) ⟨_, _, _, rfl⟩ (fun i hi ρ hρ => ?_) fun ρ hρ => ?_
  · obtain ⟨x2, x3, x4, rfl⟩ := hρ
    simp [b_law_0]
    rw [wp_bd]
    refine seen_w fun ss h l0 l9 => ?_
    simp
    rw [wp_bd]
    refine right_w h l0 ?_
    simp
    rw [wp_bd]
    refine refused_w h l0 ?_
    simp
  · obtain ⟨x2, x3, x4, rfl⟩ := hρ
    simp [b_law_s5]
end
end Lk20

set_option maxHeartbeats 4000000
namespace Lk20
open PySem PySem.Spec PyProof.Rows L2 Rk M
theorem turn__law_pick (cs : List Int) (p d s n m : Int) (p0 : 0 ≤ p) (m0 : 0 < m) (m1 : m < 2 ^ 200) : ∃ r cs' p' d' s' n' ls', xV sx__law_pick ⟨cs, [p, d, s, n], none :: some m :: List.replicate 3 none⟩ = some (.rt r ⟨cs', [p', d', s', n'], ls'⟩) ∧ 0 ≤ r ∧ r < m ∧ 0 ≤ p' := by
  have mz : ¬ (m = 0) := by omega
  have mb : -1606938044258990275541962092341162602522202993782792835301376 < m := by omega
  have ma : m < 1606938044258990275541962092341162602522202993782792835301376 := by omega
  have f0 := fun x => fmod_lo x m0
  have f1 := fun x => fmod_hi x m0
  have p1 : 0 ≤ p + 1 := by omega
  by_cases hd : d = 0
  · by_cases hp : p < cs.length
    · have hlt : p.toNat < cs.length := by omega
      by_cases hx : 1000000000000000000 ≤ cs[p.toNat]
      · have hx0 : 0 < cs[p.toNat] := by omega
        simp [sx__law_pick, xV, xI, xB, cmpI, HS.at, hd, hp, p0, hlt, hx, hx0, mz, mb, ma, f0, f1, p1]
        exact ⟨_, _, _, ⟨rfl, rfl, rfl⟩, f0 _, f1 _, by omega⟩
      · simp [sx__law_pick, xV, xI, xB, cmpI, HS.at, hd, hp, p0, hlt, hx, mz, mb, ma, f0, f1, p1, fb1, fb2, fb3, fb4, fb5, fb6]
        exact ⟨_, _, _, ⟨rfl, rfl, rfl⟩, f0 _, f1 _, by omega⟩
    · simp [sx__law_pick, xV, xI, xB, cmpI, HS.at, hd, hp, p0, mz, mb, ma, f0, f1, p1, fb1, fb2, fb3, fb4, fb5, fb6]
      exact ⟨_, _, _, ⟨rfl, rfl, rfl⟩, f0 _, f1 _, by omega⟩
  · by_cases hd2 : 0 < d
    · simp [sx__law_pick, xV, xI, xB, cmpI, HS.at, hd, hd2, p0, mz, mb, ma, f0, f1, p1]
      exact ⟨_, _, _, ⟨rfl, rfl, rfl⟩, f0 _, f1 _, by omega⟩
    · simp [sx__law_pick, xV, xI, xB, cmpI, HS.at, hd, hd2, p0, mz, mb, ma, f0, f1, p1, fb1, fb2, fb3, fb4, fb5, fb6]
      exact ⟨_, _, _, ⟨rfl, rfl, rfl⟩, f0 _, f1 _, by omega⟩
theorem hd__law_tape (ns : List Int) : (evS S__law_tape sx__law_tape (entry nm__law_tape.length [.scr ns])).wp (HandP S__law_tape 1 as__law_tape mkTape) fun _ => False := by
  rw [show entry nm__law_tape.length [.scr ns] = [.fz (.scr ns), .un, .un] from rfl]
  simp [sx__law_tape]
  rw [cmpL_map (fun z : Int => .int (z.natAbs : Int)) (fun t ht => by simp [cmp1]) (by have := cut63 ns; omega)]
  simp
  refine ⟨_, (cutA ns none (some 63)).map (fun z : Int => (z.natAbs : Int)), [0, 0, ((31 : Int) + ((cutA ns none (some 63)).length : Int)), 0], rfl, by simp [Function.comp_def], ?_, 0, 0, _, 0, rfl, by omega⟩
  simp [as__law_tape, mul_lit]
theorem cns_of {cnL : List Str} {cnV : Nat → PV} {mg : Str → Option Value} {C : Cfg} (h : ∀ i, i < cnL.length → ∃ u v, mg (cnL.getD i "") = some u ∧ RelV v u ∧ ∀ g, RP C g (cnV i) v) : ∀ c x, cnL[c]? = some x → ∃ u v, mg x = some u ∧ RelV v u ∧ ∀ g, RP C g (cnV c) v := fun c x e => by
  obtain ⟨h1, h2⟩ := List.getElem?_eq_some_iff.mp e
  obtain ⟨u, v, a, b⟩ := h c h1
  rw [List.getD_eq_getElem?_getD, e] at a
  exact ⟨u, v, a, b⟩
theorem all_mk {P : Program} {w : World} {K : PySem.W.Frag} {h : Heap} {mg : Str → Option Value} {fa : Addr} (X : K.In h) (G : h.Ns mainGlobals mg) (hfa : mg "law" = some (.ref fa)) 
    {f0 f1 f2 f3 f4 f5 f6 f7 f8 f9 f10 f11 f12 f13 f14 f15 f16 f17 f18 f19 f20 f21 f22 f23 f24 f25 f26 f27 f28 f29 f30 f31 f32 f33 f34 f35 f36 f37 f38 f39 : Addr} {oc0 kV0 dc0 pm0 ct0 : Value} {od0 an0 : Option Addr} {sl0 : Array (Option Value)} {cd0 : Value} {oc1 kV1 dc1 pm1 ct1 : Value} {od1 an1 : Option Addr} {sl1 : Array (Option Value)} {cd1 : Value} {oc2 kV2 dc2 pm2 ct2 : Value} {od2 an2 : Option Addr} {sl2 : Array (Option Value)} {cd2 : Value} {oc3 kV3 dc3 pm3 ct3 : Value} {od3 an3 : Option Addr} {sl3 : Array (Option Value)} {cd3 : Value} {oc4 kV4 dc4 pm4 ct4 : Value} {od4 an4 : Option Addr} {sl4 : Array (Option Value)} {cd4 : Value} {oc5 kV5 dc5 pm5 ct5 : Value} {od5 an5 : Option Addr} {sl5 : Array (Option Value)} {cd5 : Value} {oc6 kV6 dc6 pm6 ct6 : Value} {od6 an6 : Option Addr} {sl6 : Array (Option Value)} {cd6 : Value} {oc7 kV7 dc7 pm7 ct7 : Value} {od7 an7 : Option Addr} {sl7 : Array (Option Value)} {cd7 : Value} {oc8 kV8 dc8 pm8 ct8 : Value} {od8 an8 : Option Addr} {sl8 : Array (Option Value)} {cd8 : Value} {oc9 kV9 dc9 pm9 ct9 : Value} {od9 an9 : Option Addr} {sl9 : Array (Option Value)} {cd9 : Value} {oc10 kV10 dc10 pm10 ct10 : Value} {od10 an10 : Option Addr} {sl10 : Array (Option Value)} {cd10 : Value} {oc11 kV11 dc11 pm11 ct11 : Value} {od11 an11 : Option Addr} {sl11 : Array (Option Value)} {cd11 : Value} {oc12 kV12 dc12 pm12 ct12 : Value} {od12 an12 : Option Addr} {sl12 : Array (Option Value)} {cd12 : Value} {oc13 kV13 dc13 pm13 ct13 : Value} {od13 an13 : Option Addr} {sl13 : Array (Option Value)} {cd13 : Value} {oc14 kV14 dc14 pm14 ct14 : Value} {od14 an14 : Option Addr} {sl14 : Array (Option Value)} {cd14 : Value} {oc15 kV15 dc15 pm15 ct15 : Value} {od15 an15 : Option Addr} {sl15 : Array (Option Value)} {cd15 : Value} {oc16 kV16 dc16 pm16 ct16 : Value} {od16 an16 : Option Addr} {sl16 : Array (Option Value)} {cd16 : Value} {oc17 kV17 dc17 pm17 ct17 : Value} {od17 an17 : Option Addr} {sl17 : Array (Option Value)} {cd17 : Value} {oc18 kV18 dc18 pm18 ct18 : Value} {od18 an18 : Option Addr} {sl18 : Array (Option Value)} {cd18 : Value} {oc19 kV19 dc19 pm19 ct19 : Value} {od19 an19 : Option Addr} {sl19 : Array (Option Value)} {cd19 : Value} {oc20 kV20 dc20 pm20 ct20 : Value} {od20 an20 : Option Addr} {sl20 : Array (Option Value)} {cd20 : Value} {oc21 kV21 dc21 pm21 ct21 : Value} {od21 an21 : Option Addr} {sl21 : Array (Option Value)} {cd21 : Value} {oc22 kV22 dc22 pm22 ct22 : Value} {od22 an22 : Option Addr} {sl22 : Array (Option Value)} {cd22 : Value} {oc23 kV23 dc23 pm23 ct23 : Value} {od23 an23 : Option Addr} {sl23 : Array (Option Value)} {cd23 : Value} {oc24 kV24 dc24 pm24 ct24 : Value} {od24 an24 : Option Addr} {sl24 : Array (Option Value)} {cd24 : Value} {oc25 kV25 dc25 pm25 ct25 : Value} {od25 an25 : Option Addr} {sl25 : Array (Option Value)} {cd25 : Value} {oc26 kV26 dc26 pm26 ct26 : Value} {od26 an26 : Option Addr} {sl26 : Array (Option Value)} {cd26 : Value} {oc27 kV27 dc27 pm27 ct27 : Value} {od27 an27 : Option Addr} {sl27 : Array (Option Value)} {cd27 : Value} {oc28 kV28 dc28 pm28 ct28 : Value} {od28 an28 : Option Addr} {sl28 : Array (Option Value)} {cd28 : Value} {oc29 kV29 dc29 pm29 ct29 : Value} {od29 an29 : Option Addr} {sl29 : Array (Option Value)} {cd29 : Value} {oc30 kV30 dc30 pm30 ct30 : Value} {od30 an30 : Option Addr} {sl30 : Array (Option Value)} {cd30 : Value} {oc31 kV31 dc31 pm31 ct31 : Value} {od31 an31 : Option Addr} {sl31 : Array (Option Value)} {cd31 : Value} {oc32 kV32 dc32 pm32 ct32 : Value} {od32 an32 : Option Addr} {sl32 : Array (Option Value)} {cd32 : Value} {oc33 kV33 dc33 pm33 ct33 : Value} {od33 an33 : Option Addr} {sl33 : Array (Option Value)} {cd33 : Value} {oc34 kV34 dc34 pm34 ct34 : Value} {od34 an34 : Option Addr} {sl34 : Array (Option Value)} {cd34 : Value} {oc35 kV35 dc35 pm35 ct35 : Value} {od35 an35 : Option Addr} {sl35 : Array (Option Value)} {cd35 : Value} {oc36 kV36 dc36 pm36 ct36 : Value} {od36 an36 : Option Addr} {sl36 : Array (Option Value)} {oc37 kV37 dc37 pm37 ct37 : Value} {od37 an37 : Option Addr} {sl37 : Array (Option Value)} {oc38 kV38 dc38 pm38 ct38 : Value} {od38 an38 : Option Addr} {sl38 : Array (Option Value)} {cd38 : Value} {oc39 kV39 dc39 pm39 ct39 : Value} {od39 an39 : Option Addr} {sl39 : Array (Option Value)} {cd39 : Value} {ca36 pt36 : Addr} {ca37 pt37 : Addr} {D0 : Addr} {D1 : Addr} {D2 : Addr} {p_WHOLE : Addr} {od_WHOLE : Option Addr} {n_WHOLE : Nat} {sl_WHOLE : Array (Option Value)} {t_WHOLE_0 : Tok} {t_WHOLE_1 : Tok} {t_MOST_SEEN : Tok} {t_MOST_TIME : Tok} {p_HALF : Addr} {od_HALF : Option Addr} {n_HALF : Nat} {sl_HALF : Array (Option Value)} {t_HALF_0 : Tok} {t_HALF_1 : Tok}
    (a0 : PySem.W.nsIn K mainGlobals "is_integer" = some (some (.ref f0))) (l0 : K.lookup f0 = some ⟨oc0, od0, .func (PySem.W.fnOf "is_integer" "is_integer" (defArgs (top 1)) (defBody (top 1)) (defScope (top 1)) .none kV0 dc0 pm0 an0 cd0 ct0), sl0⟩) (c0 : PySem.W.codeIn K cd0 "is_integer" = true) (k0 : PySem.W.keepIn K (.ref f0) = true)
    (a1 : PySem.W.nsIn K mainGlobals "is_within" = some (some (.ref f1))) (l1 : K.lookup f1 = some ⟨oc1, od1, .func (PySem.W.fnOf "is_within" "is_within" (defArgs (top 2)) (defBody (top 2)) (defScope (top 2)) .none kV1 dc1 pm1 an1 cd1 ct1), sl1⟩) (c1 : PySem.W.codeIn K cd1 "is_within" = true) (k1 : PySem.W.keepIn K (.ref f1) = true)
    (a2 : PySem.W.nsIn K mainGlobals "is_tuple_of" = some (some (.ref f2))) (l2 : K.lookup f2 = some ⟨oc2, od2, .func (PySem.W.fnOf "is_tuple_of" "is_tuple_of" (defArgs (top 3)) (defBody (top 3)) (defScope (top 3)) .none kV2 dc2 pm2 an2 cd2 ct2), sl2⟩) (c2 : PySem.W.codeIn K cd2 "is_tuple_of" = true) (k2 : PySem.W.keepIn K (.ref f2) = true)
    (a3 : PySem.W.nsIn K mainGlobals "common_part" = some (some (.ref f3))) (l3 : K.lookup f3 = some ⟨oc3, od3, .func (PySem.W.fnOf "common_part" "common_part" (defArgs (top 10)) (defBody (top 10)) (defScope (top 10)) .none kV3 dc3 pm3 an3 cd3 ct3), sl3⟩) (c3 : PySem.W.codeIn K cd3 "common_part" = true) (k3 : PySem.W.keepIn K (.ref f3) = true)
    (a4 : PySem.W.nsIn K mainGlobals "raw_made" = some (some (.ref f4))) (l4 : K.lookup f4 = some ⟨oc4, od4, .func (PySem.W.fnOf "raw_made" "raw_made" (defArgs (top 11)) (defBody (top 11)) (defScope (top 11)) .none kV4 dc4 pm4 an4 cd4 ct4), sl4⟩) (c4 : PySem.W.codeIn K cd4 "raw_made" = true) (k4 : PySem.W.keepIn K (.ref f4) = true)
    (a5 : PySem.W.nsIn K mainGlobals "raw_times" = some (some (.ref f5))) (l5 : K.lookup f5 = some ⟨oc5, od5, .func (PySem.W.fnOf "raw_times" "raw_times" (defArgs (top 12)) (defBody (top 12)) (defScope (top 12)) .none kV5 dc5 pm5 an5 cd5 ct5), sl5⟩) (c5 : PySem.W.codeIn K cd5 "raw_times" = true) (k5 : PySem.W.keepIn K (.ref f5) = true)
    (a6 : PySem.W.nsIn K mainGlobals "raw_compared" = some (some (.ref f6))) (l6 : K.lookup f6 = some ⟨oc6, od6, .func (PySem.W.fnOf "raw_compared" "raw_compared" (defArgs (top 13)) (defBody (top 13)) (defScope (top 13)) .none kV6 dc6 pm6 an6 cd6 ct6), sl6⟩) (c6 : PySem.W.codeIn K cd6 "raw_compared" = true) (k6 : PySem.W.keepIn K (.ref f6) = true)
    (a7 : PySem.W.nsIn K mainGlobals "is_sight" = some (some (.ref f7))) (l7 : K.lookup f7 = some ⟨oc7, od7, .func (PySem.W.fnOf "is_sight" "is_sight" (defArgs (top 18)) (defBody (top 18)) (defScope (top 18)) .none kV7 dc7 pm7 an7 cd7 ct7), sl7⟩) (c7 : PySem.W.codeIn K cd7 "is_sight" = true) (k7 : PySem.W.keepIn K (.ref f7) = true)
    (a8 : PySem.W.nsIn K mainGlobals "check_seen" = some (some (.ref f8))) (l8 : K.lookup f8 = some ⟨oc8, od8, .func (PySem.W.fnOf "check_seen" "check_seen" (defArgs (top 19)) (defBody (top 19)) (defScope (top 19)) .none kV8 dc8 pm8 an8 cd8 ct8), sl8⟩) (c8 : PySem.W.codeIn K cd8 "check_seen" = true) (k8 : PySem.W.keepIn K (.ref f8) = true)
    (a9 : PySem.W.nsIn K mainGlobals "check_seen_time" = some (some (.ref f9))) (l9 : K.lookup f9 = some ⟨oc9, od9, .func (PySem.W.fnOf "check_seen_time" "check_seen_time" (defArgs (top 20)) (defBody (top 20)) (defScope (top 20)) .none kV9 dc9 pm9 an9 cd9 ct9), sl9⟩) (c9 : PySem.W.codeIn K cd9 "check_seen_time" = true) (k9 : PySem.W.keepIn K (.ref f9) = true)
    (a10 : PySem.W.nsIn K mainGlobals "end_times" = some (some (.ref f10))) (l10 : K.lookup f10 = some ⟨oc10, od10, .func (PySem.W.fnOf "end_times" "end_times" (defArgs (top 21)) (defBody (top 21)) (defScope (top 21)) .none kV10 dc10 pm10 an10 cd10 ct10), sl10⟩) (c10 : PySem.W.codeIn K cd10 "end_times" = true) (k10 : PySem.W.keepIn K (.ref f10) = true)
    (a11 : PySem.W.nsIn K mainGlobals "raw_at_risk" = some (some (.ref f11))) (l11 : K.lookup f11 = some ⟨oc11, od11, .func (PySem.W.fnOf "raw_at_risk" "raw_at_risk" (defArgs (top 22)) (defBody (top 22)) (defScope (top 22)) .none kV11 dc11 pm11 an11 cd11 ct11), sl11⟩) (c11 : PySem.W.codeIn K cd11 "raw_at_risk" = true) (k11 : PySem.W.keepIn K (.ref f11) = true)
    (a12 : PySem.W.nsIn K mainGlobals "raw_ends" = some (some (.ref f12))) (l12 : K.lookup f12 = some ⟨oc12, od12, .func (PySem.W.fnOf "raw_ends" "raw_ends" (defArgs (top 23)) (defBody (top 23)) (defScope (top 23)) .none kV12 dc12 pm12 an12 cd12 ct12), sl12⟩) (c12 : PySem.W.codeIn K cd12 "raw_ends" = true) (k12 : PySem.W.keepIn K (.ref f12) = true)
    (a13 : PySem.W.nsIn K mainGlobals "raw_curve" = some (some (.ref f13))) (l13 : K.lookup f13 = some ⟨oc13, od13, .func (PySem.W.fnOf "raw_curve" "raw_curve" (defArgs (top 24)) (defBody (top 24)) (defScope (top 24)) .none kV13 dc13 pm13 an13 cd13 ct13), sl13⟩) (c13 : PySem.W.codeIn K cd13 "raw_curve" = true) (k13 : PySem.W.keepIn K (.ref f13) = true)
    (a14 : PySem.W.nsIn K mainGlobals "curve" = some (some (.ref f14))) (l14 : K.lookup f14 = some ⟨oc14, od14, .func (PySem.W.fnOf "curve" "curve" (defArgs (top 25)) (defBody (top 25)) (defScope (top 25)) .none kV14 dc14 pm14 an14 cd14 ct14), sl14⟩) (c14 : PySem.W.codeIn K cd14 "curve" = true) (k14 : PySem.W.keepIn K (.ref f14) = true)
    (a15 : PySem.W.nsIn K mainGlobals "raw_survives" = some (some (.ref f15))) (l15 : K.lookup f15 = some ⟨oc15, od15, .func (PySem.W.fnOf "raw_survives" "raw_survives" (defArgs (top 26)) (defBody (top 26)) (defScope (top 26)) .none kV15 dc15 pm15 an15 cd15 ct15), sl15⟩) (c15 : PySem.W.codeIn K cd15 "raw_survives" = true) (k15 : PySem.W.keepIn K (.ref f15) = true)
    (a16 : PySem.W.nsIn K mainGlobals "survives" = some (some (.ref f16))) (l16 : K.lookup f16 = some ⟨oc16, od16, .func (PySem.W.fnOf "survives" "survives" (defArgs (top 27)) (defBody (top 27)) (defScope (top 27)) .none kV16 dc16 pm16 an16 cd16 ct16), sl16⟩) (c16 : PySem.W.codeIn K cd16 "survives" = true) (k16 : PySem.W.keepIn K (.ref f16) = true)
    (a17 : PySem.W.nsIn K mainGlobals "at_risk" = some (some (.ref f17))) (l17 : K.lookup f17 = some ⟨oc17, od17, .func (PySem.W.fnOf "at_risk" "at_risk" (defArgs (top 28)) (defBody (top 28)) (defScope (top 28)) .none kV17 dc17 pm17 an17 cd17 ct17), sl17⟩) (c17 : PySem.W.codeIn K cd17 "at_risk" = true) (k17 : PySem.W.keepIn K (.ref f17) = true)
    (a18 : PySem.W.nsIn K mainGlobals "ends_at" = some (some (.ref f18))) (l18 : K.lookup f18 = some ⟨oc18, od18, .func (PySem.W.fnOf "ends_at" "ends_at" (defArgs (top 29)) (defBody (top 29)) (defScope (top 29)) .none kV18 dc18 pm18 an18 cd18 ct18), sl18⟩) (c18 : PySem.W.codeIn K cd18 "ends_at" = true) (k18 : PySem.W.keepIn K (.ref f18) = true)
    (a19 : PySem.W.nsIn K mainGlobals "half_time" = some (some (.ref f19))) (l19 : K.lookup f19 = some ⟨oc19, od19, .func (PySem.W.fnOf "half_time" "half_time" (defArgs (top 30)) (defBody (top 30)) (defScope (top 30)) .none kV19 dc19 pm19 an19 cd19 ct19), sl19⟩) (c19 : PySem.W.codeIn K cd19 "half_time" = true) (k19 : PySem.W.keepIn K (.ref f19) = true)
    (a20 : PySem.W.nsIn K mainGlobals "without_lost" = some (some (.ref f20))) (l20 : K.lookup f20 = some ⟨oc20, od20, .func (PySem.W.fnOf "without_lost" "without_lost" (defArgs (top 31)) (defBody (top 31)) (defScope (top 31)) .none kV20 dc20 pm20 an20 cd20 ct20), sl20⟩) (c20 : PySem.W.codeIn K cd20 "without_lost" = true) (k20 : PySem.W.keepIn K (.ref f20) = true)
    (a21 : PySem.W.nsIn K mainGlobals "_law_tape" = some (some (.ref f21))) (l21 : K.lookup f21 = some ⟨oc21, od21, .func (PySem.W.fnOf "_law_tape" "_law_tape" (defArgs (top 33)) (defBody (top 33)) (defScope (top 33)) .none kV21 dc21 pm21 an21 cd21 ct21), sl21⟩) (c21 : PySem.W.codeIn K cd21 "_law_tape" = true) (k21 : PySem.W.keepIn K (.ref f21) = true)
    (a22 : PySem.W.nsIn K mainGlobals "_law_pick" = some (some (.ref f22))) (l22 : K.lookup f22 = some ⟨oc22, od22, .func (PySem.W.fnOf "_law_pick" "_law_pick" (defArgs (top 34)) (defBody (top 34)) (defScope (top 34)) .none kV22 dc22 pm22 an22 cd22 ct22), sl22⟩) (c22 : PySem.W.codeIn K cd22 "_law_pick" = true) (k22 : PySem.W.keepIn K (.ref f22) = true)
    (a23 : PySem.W.nsIn K mainGlobals "_law_any" = some (some (.ref f23))) (l23 : K.lookup f23 = some ⟨oc23, od23, .func (PySem.W.fnOf "_law_any" "_law_any" (defArgs (top 35)) (defBody (top 35)) (defScope (top 35)) .none kV23 dc23 pm23 an23 cd23 ct23), sl23⟩) (c23 : PySem.W.codeIn K cd23 "_law_any" = true) (k23 : PySem.W.keepIn K (.ref f23) = true)
    (a24 : PySem.W.nsIn K mainGlobals "_law_mixed" = some (some (.ref f24))) (l24 : K.lookup f24 = some ⟨oc24, od24, .func (PySem.W.fnOf "_law_mixed" "_law_mixed" (defArgs (top 36)) (defBody (top 36)) (defScope (top 36)) .none kV24 dc24 pm24 an24 cd24 ct24), sl24⟩) (c24 : PySem.W.codeIn K cd24 "_law_mixed" = true) (k24 : PySem.W.keepIn K (.ref f24) = true)
    (a25 : PySem.W.nsIn K mainGlobals "_law_shared" = some (some (.ref f25))) (l25 : K.lookup f25 = some ⟨oc25, od25, .func (PySem.W.fnOf "_law_shared" "_law_shared" (defArgs (top 37)) (defBody (top 37)) (defScope (top 37)) .none kV25 dc25 pm25 an25 cd25 ct25), sl25⟩) (c25 : PySem.W.codeIn K cd25 "_law_shared" = true) (k25 : PySem.W.keepIn K (.ref f25) = true)
    (a26 : PySem.W.nsIn K mainGlobals "_law_over" = some (some (.ref f26))) (l26 : K.lookup f26 = some ⟨oc26, od26, .func (PySem.W.fnOf "_law_over" "_law_over" (defArgs (top 38)) (defBody (top 38)) (defScope (top 38)) .none kV26 dc26 pm26 an26 cd26 ct26), sl26⟩) (c26 : PySem.W.codeIn K cd26 "_law_over" = true) (k26 : PySem.W.keepIn K (.ref f26) = true)
    (a27 : PySem.W.nsIn K mainGlobals "_law_times" = some (some (.ref f27))) (l27 : K.lookup f27 = some ⟨oc27, od27, .func (PySem.W.fnOf "_law_times" "_law_times" (defArgs (top 39)) (defBody (top 39)) (defScope (top 39)) .none kV27 dc27 pm27 an27 cd27 ct27), sl27⟩) (c27 : PySem.W.codeIn K cd27 "_law_times" = true) (k27 : PySem.W.keepIn K (.ref f27) = true)
    (a28 : PySem.W.nsIn K mainGlobals "_law_seen" = some (some (.ref f28))) (l28 : K.lookup f28 = some ⟨oc28, od28, .func (PySem.W.fnOf "_law_seen" "_law_seen" (defArgs (top 40)) (defBody (top 40)) (defScope (top 40)) .none kV28 dc28 pm28 an28 cd28 ct28), sl28⟩) (c28 : PySem.W.codeIn K cd28 "_law_seen" = true) (k28 : PySem.W.keepIn K (.ref f28) = true)
    (a29 : PySem.W.nsIn K mainGlobals "_law_risk" = some (some (.ref f29))) (l29 : K.lookup f29 = some ⟨oc29, od29, .func (PySem.W.fnOf "_law_risk" "_law_risk" (defArgs (top 41)) (defBody (top 41)) (defScope (top 41)) .none kV29 dc29 pm29 an29 cd29 ct29), sl29⟩) (c29 : PySem.W.codeIn K cd29 "_law_risk" = true) (k29 : PySem.W.keepIn K (.ref f29) = true)
    (a30 : PySem.W.nsIn K mainGlobals "_law_ends" = some (some (.ref f30))) (l30 : K.lookup f30 = some ⟨oc30, od30, .func (PySem.W.fnOf "_law_ends" "_law_ends" (defArgs (top 42)) (defBody (top 42)) (defScope (top 42)) .none kV30 dc30 pm30 an30 cd30 ct30), sl30⟩) (c30 : PySem.W.codeIn K cd30 "_law_ends" = true) (k30 : PySem.W.keepIn K (.ref f30) = true)
    (a31 : PySem.W.nsIn K mainGlobals "_law_times_of" = some (some (.ref f31))) (l31 : K.lookup f31 = some ⟨oc31, od31, .func (PySem.W.fnOf "_law_times_of" "_law_times_of" (defArgs (top 43)) (defBody (top 43)) (defScope (top 43)) .none kV31 dc31 pm31 an31 cd31 ct31), sl31⟩) (c31 : PySem.W.codeIn K cd31 "_law_times_of" = true) (k31 : PySem.W.keepIn K (.ref f31) = true)
    (a32 : PySem.W.nsIn K mainGlobals "_law_curve" = some (some (.ref f32))) (l32 : K.lookup f32 = some ⟨oc32, od32, .func (PySem.W.fnOf "_law_curve" "_law_curve" (defArgs (top 44)) (defBody (top 44)) (defScope (top 44)) .none kV32 dc32 pm32 an32 cd32 ct32), sl32⟩) (c32 : PySem.W.codeIn K cd32 "_law_curve" = true) (k32 : PySem.W.keepIn K (.ref f32) = true)
    (a33 : PySem.W.nsIn K mainGlobals "_law_no_seen" = some (some (.ref f33))) (l33 : K.lookup f33 = some ⟨oc33, od33, .func (PySem.W.fnOf "_law_no_seen" "_law_no_seen" (defArgs (top 45)) (defBody (top 45)) (defScope (top 45)) .none kV33 dc33 pm33 an33 cd33 ct33), sl33⟩) (c33 : PySem.W.codeIn K cd33 "_law_no_seen" = true) (k33 : PySem.W.keepIn K (.ref f33) = true)
    (a34 : PySem.W.nsIn K mainGlobals "_law_word" = some (some (.ref f34))) (l34 : K.lookup f34 = some ⟨oc34, od34, .func (PySem.W.fnOf "_law_word" "_law_word" (defArgs (top 46)) (defBody (top 46)) (defScope (top 46)) .none kV34 dc34 pm34 an34 cd34 ct34), sl34⟩) (c34 : PySem.W.codeIn K cd34 "_law_word" = true) (k34 : PySem.W.keepIn K (.ref f34) = true)
    (a35 : PySem.W.nsIn K mainGlobals "_law_is_right" = some (some (.ref f35))) (l35 : K.lookup f35 = some ⟨oc35, od35, .func (PySem.W.fnOf "_law_is_right" "_law_is_right" (defArgs (top 47)) (defBody (top 47)) (defScope (top 47)) .none kV35 dc35 pm35 an35 cd35 ct35), sl35⟩) (c35 : PySem.W.codeIn K cd35 "_law_is_right" = true) (k35 : PySem.W.keepIn K (.ref f35) = true)
    (a36 : PySem.W.nsIn K mainGlobals "_law_word_of" = some (some (.ref f36))) (l36 : K.lookup f36 = some ⟨oc36, od36, .func (PySem.W.fnOf "_law_word_of" "_law_word_of" (defArgs (top 49)) (defBody (top 49)) (defScope (top 49)) .none kV36 dc36 pm36 an36 (.ref ca36) ct36), sl36⟩) (c36 : PySem.W.codeIn K (.ref ca36) "_law_word_of" = true) (k36 : PySem.W.keepIn K (.ref f36) = true)
    (a37 : PySem.W.nsIn K mainGlobals "_law_word_by" = some (some (.ref f37))) (l37 : K.lookup f37 = some ⟨oc37, od37, .func (PySem.W.fnOf "_law_word_by" "_law_word_by" (defArgs (top 50)) (defBody (top 50)) (defScope (top 50)) .none kV37 dc37 pm37 an37 (.ref ca37) ct37), sl37⟩) (c37 : PySem.W.codeIn K (.ref ca37) "_law_word_by" = true) (k37 : PySem.W.keepIn K (.ref f37) = true)
    (a38 : PySem.W.nsIn K mainGlobals "_law_is_refused" = some (some (.ref f38))) (l38 : K.lookup f38 = some ⟨oc38, od38, .func (PySem.W.fnOf "_law_is_refused" "_law_is_refused" (defArgs (top 48)) (defBody (top 48)) (defScope (top 48)) .none kV38 dc38 pm38 an38 cd38 ct38), sl38⟩) (c38 : PySem.W.codeIn K cd38 "_law_is_refused" = true) (k38 : PySem.W.keepIn K (.ref f38) = true)
    (a39 : PySem.W.nsIn K mainGlobals "law" = some (some (.ref f39))) (l39 : K.lookup f39 = some ⟨oc39, od39, .func (PySem.W.fnOf "law" "law" (defArgs (top 51)) (defBody (top 51)) (defScope (top 51)) .none kV39 dc39 pm39 an39 cd39 ct39), sl39⟩) (c39 : PySem.W.codeIn K cd39 "law" = true) (k39 : PySem.W.keepIn K (.ref f39) = true)
    (t36 : h.get? pt36 = some tab0 ∧ PySem.W.CodeHd h ca36 pt36) (n36 : K.lookup pt36 = none) (t37 : h.get? pt37 = some tab0 ∧ PySem.W.CodeHd h ca37 pt37) (n37 : K.lookup pt37 = none)
    (tu : ([pt36, pt37] : List Addr).Nodup) (e0 : PySem.W.nsIn K mainGlobals "RiskError" = some (some (.ref D0))) (e1 : PySem.W.nsIn K mainGlobals "NoSeen" = some (some (.ref D1))) (e2 : PySem.W.nsIn K mainGlobals "NoTime" = some (some (.ref D2)))
    (ec : clsOk K [D0, D1, D2] = true) (z_len : PySem.W.nsIn K mainGlobals "len" = some none) (z_sum : PySem.W.nsIn K mainGlobals "sum" = some none) (z_min : PySem.W.nsIn K mainGlobals "min" = some none)
    (z_max : PySem.W.nsIn K mainGlobals "max" = some none) (z_abs : PySem.W.nsIn K mainGlobals "abs" = some none) (z_int : PySem.W.nsIn K mainGlobals "int" = some none) (z_str : PySem.W.nsIn K mainGlobals "str" = some none)
    (z_tuple : PySem.W.nsIn K mainGlobals "tuple" = some none) (z_list : PySem.W.nsIn K mainGlobals "list" = some none) (z_sorted : PySem.W.nsIn K mainGlobals "sorted" = some none) (z_all : PySem.W.nsIn K mainGlobals "all" = some none)
    (z_any : PySem.W.nsIn K mainGlobals "any" = some none) (z_repr : PySem.W.nsIn K mainGlobals "repr" = some none) (z_bool : PySem.W.nsIn K mainGlobals "bool" = some none) (z_dict : PySem.W.nsIn K mainGlobals "dict" = some none)
    (z_range : PySem.W.nsIn K mainGlobals "range" = some none) (z_zip : PySem.W.nsIn K mainGlobals "zip" = some none) (z_enumerate : PySem.W.nsIn K mainGlobals "enumerate" = some none) (z_isinstance : PySem.W.nsIn K mainGlobals "isinstance" = some none)
    (z_ValueError : PySem.W.nsIn K mainGlobals "ValueError" = some none) (x_WHOLE : PySem.W.nsIn K mainGlobals "WHOLE" = some (some (.ref p_WHOLE))) (y_WHOLE : K.lookup p_WHOLE = some ⟨.type "tuple", od_WHOLE, .seq #[.int 1 t_WHOLE_0, .int 1 t_WHOLE_1] n_WHOLE, sl_WHOLE⟩) (x_MOST_SEEN : PySem.W.nsIn K mainGlobals "MOST_SEEN" = some (some (.int 60 t_MOST_SEEN)))
    (x_MOST_TIME : PySem.W.nsIn K mainGlobals "MOST_TIME" = some (some (.int 1000 t_MOST_TIME))) (x_HALF : PySem.W.nsIn K mainGlobals "HALF" = some (some (.ref p_HALF))) (y_HALF : K.lookup p_HALF = some ⟨.type "tuple", od_HALF, .seq #[.int 1 t_HALF_0, .int 2 t_HALF_1] n_HALF, sl_HALF⟩)
    : ∃ (C : Cfg) (fd : FuncData) (Φ : FSpec), C.K = K ∧ Tbs C h ∧ (∀ (s : Shared) (u : Value), BindsTo s fd ⟨[u], []⟩ [("script", u)]) ∧ (∀ base : Heap, C.K.In base → base.Ns mainGlobals mg → (∀ c q, q ∈ C.Tb → PySem.W.CodeHd h c q.1 → LamX.TabB base mg c q.1) → FnG P w C.K mg base 44 fa fd ["script"] (spOf C Φ)) ∧ ∀ ns : List Int, ns.length ≤ 63 → (∀ z ∈ ns, Builtin.Int.intBits z ≤ 1048576) → Φ.run [.scr ns] (fun p => p = .bl true) fun _ => False := by
  have e : f39 = fa := by
    have e := hfa.symm.trans (PySem.W.mg_of X G a39)
    cases e
    rfl
  subst e
  let C : Cfg := ⟨K, fun i => ([f0, f1, f2, f3, f4, f5, f6, f7, f8, f9, f10, f11, f12, f13, f14, f15, f16, f17, f18, f19, f20, f21, f22, f23, f24, f25, f26, f27, f28, f29, f30, f31, f32, f33, f34, f35, f36, f37, f38, f39] : List Addr)[i]?, fun i => ([D0, D1, D2] : List Addr)[i]?, HKtape, [(pt36, lamN "_law_word_of"), (pt37, lamN "_law_word_by")], HKtape.hk, HKtape.hl⟩
  refine ⟨C, PySem.W.fnOf "law" "law" (defArgs (top 51)) (defBody (top 51)) (defScope (top 51)) .none kV39 dc39 pm39 an39 cd39 ct39, P_law.spec, rfl, ?_, fun s v => .of_eq rfl, fun base kin nsb tB => ?_, fun ns _ _ => by
    have h := law_ok ns
    unfold F_law at h
    exact h⟩
  · have tm : ∀ q, q ∈ C.Tb → q = (pt36, lamN "_law_word_of") ∨ q = (pt37, lamN "_law_word_by") := fun q hq => by
      have hq : q ∈ ([(pt36, lamN "_law_word_of"), (pt37, lamN "_law_word_by")] : List (Addr × Str)) := hq
      simpa only [List.mem_cons, List.not_mem_nil, or_false] using hq
    refine ⟨fun q hq => ?_, fun q hq => ?_, fun q hq => ?_⟩
    · rcases tm q hq with rfl | rfl
      · exact t36.1
      · exact t37.1
    · rcases tm q hq with rfl | rfl
      · exact n36
      · exact n37
    · rcases tm q hq with rfl | rfl
      · exact ⟨_, t36.2⟩
      · exact ⟨_, t37.2⟩
  have CA : ClsAll C mg (fun i => clL[i]?) cnV := cls_all (Ds := [D0, D1, D2]) rfl rfl ec fun i hi => by
    have hi : i < 3 := hi
    have hi : i = 0 ∨ i = 1 ∨ i = 2 := by omega
    rcases hi with rfl | rfl | rfl
    · exact PySem.W.mg_of X G e0
    · exact PySem.W.mg_of X G e1
    · exact PySem.W.mg_of X G e2
  have hb : ∀ b, b ∈ bltNames → mg b = none := fun b hb => by
    simp only [bltNames, List.mem_cons, List.not_mem_nil, or_false] at hb
    rcases hb with rfl | rfl | rfl | rfl | rfl | rfl | rfl | rfl | rfl | rfl | rfl | rfl | rfl | rfl | rfl | rfl | rfl | rfl | rfl | rfl
    · exact PySem.W.mg_none_of X G z_len
    · exact PySem.W.mg_none_of X G z_sum
    · exact PySem.W.mg_none_of X G z_min
    · exact PySem.W.mg_none_of X G z_max
    · exact PySem.W.mg_none_of X G z_abs
    · exact PySem.W.mg_none_of X G z_int
    · exact PySem.W.mg_none_of X G z_str
    · exact PySem.W.mg_none_of X G z_tuple
    · exact PySem.W.mg_none_of X G z_list
    · exact PySem.W.mg_none_of X G z_sorted
    · exact PySem.W.mg_none_of X G z_all
    · exact PySem.W.mg_none_of X G z_any
    · exact PySem.W.mg_none_of X G z_repr
    · exact PySem.W.mg_none_of X G z_bool
    · exact PySem.W.mg_none_of X G z_dict
    · exact PySem.W.mg_none_of X G z_range
    · exact PySem.W.mg_none_of X G z_zip
    · exact PySem.W.mg_none_of X G z_enumerate
    · exact PySem.W.mg_none_of X G z_isinstance
    · exact PySem.W.mg_none_of X G z_ValueError
  have hc : ∀ c x, cnN c = some x → ∃ u v, mg x = some u ∧ RelV v u ∧ ∀ g, RP C g (cnV c) v := cns_of (cnL := cnL) fun i hi => by
    have hi : i < 4 := hi
    have hi : i = 0 ∨ i = 1 ∨ i = 2 ∨ i = 3 := by omega
    rcases hi with rfl | rfl | rfl | rfl
    · exact ⟨_, .ref p_WHOLE, PySem.W.mg_of X G x_WHOLE, rfl, fun g => ⟨p_WHOLE, [V.int 1, V.int 1], rfl, .inr ⟨_, _, _, y_WHOLE, rfl, rfl, size_ok (by simp), (.cons ⟨_, rfl⟩ (.cons ⟨_, rfl⟩ .nil))⟩, (RPs.cons rfl (RPs.cons rfl RPs.nil))⟩⟩
    · exact ⟨_, .int 60, PySem.W.mg_of X G x_MOST_SEEN, ⟨_, rfl⟩, fun g => rfl⟩
    · exact ⟨_, .int 1000, PySem.W.mg_of X G x_MOST_TIME, ⟨_, rfl⟩, fun g => rfl⟩
    · exact ⟨_, .ref p_HALF, PySem.W.mg_of X G x_HALF, rfl, fun g => ⟨p_HALF, [V.int 1, V.int 2], rfl, .inr ⟨_, _, _, y_HALF, rfl, rfl, size_ok (by simp), (.cons ⟨_, rfl⟩ (.cons ⟨_, rfl⟩ .nil))⟩, (RPs.cons rfl (RPs.cons rfl RPs.nil))⟩⟩
  have L0 : Lib ⟨[], fnUp fnL 0, cnN, fnUp wlL 0, clN, Rk.f0⟩ S_is_integer.sig C P w mg base 0 := lib_zero (wl := wlL) hc CA.cls CA.exc hb
  have F0 := fun_mk (st := top 1) l0 c0 k0
  have b0 := F0.binds (ps := ar_is_integer) fun _ _ _ _ _ _ us hl => match us, hl with | [_], _ => rfl
  have G0 : FnG P w C.K mg base 1 f0 _ ar_is_integer (spOf C P_is_integer.spec) := defM_ok (n := ⟨[], fnU 0, cnN, fnUp wlL 0, clN, Rk.f0⟩) (lm := false) F0 sc_is_integer L0.nm CA.crs ck_is_integer (fun z => by cases z)
  have L1 : Lib ⟨[], fnUp fnL 1, cnN, fnUp wlL 0, clN, Rk.f0⟩ S_is_within.sig C P w mg base 1 := lib_step (by omega) L0 rfl (PySem.W.mg_of X G a0) rfl k0 b0 rfl G0
  have F1 := fun_mk (st := top 2) l1 c1 k1
  have b1 := F1.binds (ps := ar_is_within) fun _ _ _ _ _ _ us hl => match us, hl with | [_, _, _], _ => rfl
  have G1 : FnG P w C.K mg base 2 f1 _ ar_is_within (spOf C P_is_within.spec) := defM_ok (n := ⟨[], fnU 1, cnN, fnUp wlL 0, clN, Rk.f0⟩) (lm := false) F1 sc_is_within L1.nm CA.crs ck_is_within (fun z => by cases z)
  have L2 : Lib ⟨[], fnUp fnL 2, cnN, fnUp wlL 0, clN, Rk.f0⟩ S_is_tuple_of.sig C P w mg base 2 := lib_step (by omega) L1 rfl (PySem.W.mg_of X G a1) rfl k1 b1 rfl G1
  have F2 := fun_mk (st := top 3) l2 c2 k2
  have b2 := F2.binds (ps := ar_is_tuple_of) fun _ _ _ _ _ _ us hl => match us, hl with | [_, _], _ => rfl
  have G2 : FnG P w C.K mg base 3 f2 _ ar_is_tuple_of (spOf C P_is_tuple_of.spec) := defM_ok (n := ⟨[], fnU 2, cnN, fnUp wlL 0, clN, Rk.f0⟩) (lm := false) F2 sc_is_tuple_of L2.nm CA.crs ck_is_tuple_of (fun z => by cases z)
  have L3 : Lib ⟨[], fnUp fnL 3, cnN, fnUp wlL 0, clN, Rk.f0⟩ S_common_part.sig C P w mg base 3 := lib_step (by omega) L2 rfl (PySem.W.mg_of X G a2) rfl k2 b2 rfl G2
  have F3 := fun_mk (st := top 10) l3 c3 k3
  have b3 := F3.binds (ps := ar_common_part) fun _ _ _ _ _ _ us hl => match us, hl with | [_, _], _ => rfl
  have G3 : FnG P w C.K mg base 4 f3 _ ar_common_part (spOf C P_common_part.spec) := defM_ok (n := ⟨[], fnU 3, cnN, fnUp wlL 0, clN, Rk.f0⟩) (lm := false) F3 sc_common_part L3.nm CA.crs ck_common_part (fun z => by cases z)
  have L4 : Lib ⟨[], fnUp fnL 4, cnN, fnUp wlL 0, clN, Rk.f0⟩ S_raw_made.sig C P w mg base 4 := lib_step (by omega) L3 rfl (PySem.W.mg_of X G a3) rfl k3 b3 rfl G3
  have F4 := fun_mk (st := top 11) l4 c4 k4
  have b4 := F4.binds (ps := ar_raw_made) fun _ _ _ _ _ _ us hl => match us, hl with | [_, _], _ => rfl
  have G4 : FnG P w C.K mg base 5 f4 _ ar_raw_made (spOf C P_raw_made.spec) := defM_ok (n := ⟨[], fnU 4, cnN, fnUp wlL 0, clN, Rk.f0⟩) (lm := false) F4 sc_raw_made L4.nm CA.crs ck_raw_made (fun z => by cases z)
  have L5 : Lib ⟨[], fnUp fnL 5, cnN, fnUp wlL 0, clN, Rk.f0⟩ S_raw_times.sig C P w mg base 5 := lib_step (by omega) L4 rfl (PySem.W.mg_of X G a4) rfl k4 b4 rfl G4
  have F5 := fun_mk (st := top 12) l5 c5 k5
  have b5 := F5.binds (ps := ar_raw_times) fun _ _ _ _ _ _ us hl => match us, hl with | [_, _], _ => rfl
  have G5 : FnG P w C.K mg base 6 f5 _ ar_raw_times (spOf C P_raw_times.spec) := defM_ok (n := ⟨[], fnU 5, cnN, fnUp wlL 0, clN, Rk.f0⟩) (lm := false) F5 sc_raw_times L5.nm CA.crs ck_raw_times (fun z => by cases z)
  have L6 : Lib ⟨[], fnUp fnL 6, cnN, fnUp wlL 0, clN, Rk.f0⟩ S_raw_compared.sig C P w mg base 6 := lib_step (by omega) L5 rfl (PySem.W.mg_of X G a5) rfl k5 b5 rfl G5
  have F6 := fun_mk (st := top 13) l6 c6 k6
  have b6 := F6.binds (ps := ar_raw_compared) fun _ _ _ _ _ _ us hl => match us, hl with | [_, _], _ => rfl
  have G6 : FnG P w C.K mg base 7 f6 _ ar_raw_compared (spOf C P_raw_compared.spec) := defM_ok (n := ⟨[], fnU 6, cnN, fnUp wlL 0, clN, Rk.f0⟩) (lm := false) F6 sc_raw_compared L6.nm CA.crs ck_raw_compared (fun z => by cases z)
  have L7 : Lib ⟨[], fnUp fnL 7, cnN, fnUp wlL 0, clN, Rk.f0⟩ S_is_sight.sig C P w mg base 7 := lib_step (by omega) L6 rfl (PySem.W.mg_of X G a6) rfl k6 b6 rfl G6
  have F7 := fun_mk (st := top 18) l7 c7 k7
  have b7 := F7.binds (ps := ar_is_sight) fun _ _ _ _ _ _ us hl => match us, hl with | [_], _ => rfl
  have G7 : FnG P w C.K mg base 8 f7 _ ar_is_sight (spOf C P_is_sight.spec) := defM_ok (n := ⟨[], fnU 7, cnN, fnUp wlL 0, clN, Rk.f0⟩) (lm := false) F7 sc_is_sight L7.nm CA.crs ck_is_sight (fun z => by cases z)
  have L8 : Lib ⟨[], fnUp fnL 8, cnN, fnUp wlL 0, clN, Rk.f0⟩ S_check_seen.sig C P w mg base 8 := lib_step (by omega) L7 rfl (PySem.W.mg_of X G a7) rfl k7 b7 rfl G7
  have F8 := fun_mk (st := top 19) l8 c8 k8
  have b8 := F8.binds (ps := ar_check_seen) fun _ _ _ _ _ _ us hl => match us, hl with | [_], _ => rfl
  have G8 : FnG P w C.K mg base 9 f8 _ ar_check_seen (spOf C P_check_seen.spec) := defM_ok (n := ⟨[], fnU 8, cnN, fnUp wlL 0, clN, Rk.f0⟩) (lm := false) F8 sc_check_seen L8.nm CA.crs ck_check_seen (fun z => by cases z)
  have L9 : Lib ⟨[], fnUp fnL 9, cnN, fnUp wlL 0, clN, Rk.f0⟩ S_check_seen_time.sig C P w mg base 9 := lib_step (by omega) L8 rfl (PySem.W.mg_of X G a8) rfl k8 b8 rfl G8
  have F9 := fun_mk (st := top 20) l9 c9 k9
  have b9 := F9.binds (ps := ar_check_seen_time) fun _ _ _ _ _ _ us hl => match us, hl with | [_, _], _ => rfl
  have G9 : FnG P w C.K mg base 10 f9 _ ar_check_seen_time (spOf C P_check_seen_time.spec) := defM_ok (n := ⟨[], fnU 9, cnN, fnUp wlL 0, clN, Rk.f0⟩) (lm := false) F9 sc_check_seen_time L9.nm CA.crs ck_check_seen_time (fun z => by cases z)
  have L10 : Lib ⟨[], fnUp fnL 10, cnN, fnUp wlL 0, clN, Rk.f0⟩ S_end_times.sig C P w mg base 10 := lib_step (by omega) L9 rfl (PySem.W.mg_of X G a9) rfl k9 b9 rfl G9
  have F10 := fun_mk (st := top 21) l10 c10 k10
  have b10 := F10.binds (ps := ar_end_times) fun _ _ _ _ _ _ us hl => match us, hl with | [_], _ => rfl
  have G10 : FnG P w C.K mg base 11 f10 _ ar_end_times (spOf C P_end_times.spec) := defM_ok (n := ⟨[], fnU 10, cnN, fnUp wlL 0, clN, Rk.f0⟩) (lm := false) F10 sc_end_times L10.nm CA.crs ck_end_times (fun z => by cases z)
  have L11 : Lib ⟨[], fnUp fnL 11, cnN, fnUp wlL 0, clN, Rk.f0⟩ S_raw_at_risk.sig C P w mg base 11 := lib_step (by omega) L10 rfl (PySem.W.mg_of X G a10) rfl k10 b10 rfl G10
  have F11 := fun_mk (st := top 22) l11 c11 k11
  have b11 := F11.binds (ps := ar_raw_at_risk) fun _ _ _ _ _ _ us hl => match us, hl with | [_, _], _ => rfl
  have G11 : FnG P w C.K mg base 12 f11 _ ar_raw_at_risk (spOf C P_raw_at_risk.spec) := defM_ok (n := ⟨[], fnU 11, cnN, fnUp wlL 0, clN, Rk.f0⟩) (lm := false) F11 sc_raw_at_risk L11.nm CA.crs ck_raw_at_risk (fun z => by cases z)
  have L12 : Lib ⟨[], fnUp fnL 12, cnN, fnUp wlL 0, clN, Rk.f0⟩ S_raw_ends.sig C P w mg base 12 := lib_step (by omega) L11 rfl (PySem.W.mg_of X G a11) rfl k11 b11 rfl G11
  have F12 := fun_mk (st := top 23) l12 c12 k12
  have b12 := F12.binds (ps := ar_raw_ends) fun _ _ _ _ _ _ us hl => match us, hl with | [_, _], _ => rfl
  have G12 : FnG P w C.K mg base 13 f12 _ ar_raw_ends (spOf C P_raw_ends.spec) := defM_ok (n := ⟨[], fnU 12, cnN, fnUp wlL 0, clN, Rk.f0⟩) (lm := false) F12 sc_raw_ends L12.nm CA.crs ck_raw_ends (fun z => by cases z)
  have L13 : Lib ⟨[], fnUp fnL 13, cnN, fnUp wlL 0, clN, Rk.f0⟩ S_raw_curve.sig C P w mg base 13 := lib_step (by omega) L12 rfl (PySem.W.mg_of X G a12) rfl k12 b12 rfl G12
  have F13 := fun_mk (st := top 24) l13 c13 k13
  have b13 := F13.binds (ps := ar_raw_curve) fun _ _ _ _ _ _ us hl => match us, hl with | [_], _ => rfl
  have G13 : FnG P w C.K mg base 14 f13 _ ar_raw_curve (spOf C P_raw_curve.spec) := defM_ok (n := ⟨[], fnU 13, cnN, fnUp wlL 0, clN, Rk.f0⟩) (lm := false) F13 sc_raw_curve L13.nm CA.crs ck_raw_curve (fun z => by cases z)
  have L14 : Lib ⟨[], fnUp fnL 14, cnN, fnUp wlL 0, clN, Rk.f0⟩ S_curve.sig C P w mg base 14 := lib_step (by omega) L13 rfl (PySem.W.mg_of X G a13) rfl k13 b13 rfl G13
  have F14 := fun_mk (st := top 25) l14 c14 k14
  have b14 := F14.binds (ps := ar_curve) fun _ _ _ _ _ _ us hl => match us, hl with | [_], _ => rfl
  have G14 : FnG P w C.K mg base 15 f14 _ ar_curve (spOf C P_curve.spec) := defM_ok (n := ⟨[], fnU 14, cnN, fnUp wlL 0, clN, Rk.f0⟩) (lm := false) F14 sc_curve L14.nm CA.crs ck_curve (fun z => by cases z)
  have L15 : Lib ⟨[], fnUp fnL 15, cnN, fnUp wlL 0, clN, Rk.f0⟩ S_raw_survives.sig C P w mg base 15 := lib_step (by omega) L14 rfl (PySem.W.mg_of X G a14) rfl k14 b14 rfl G14
  have F15 := fun_mk (st := top 26) l15 c15 k15
  have b15 := F15.binds (ps := ar_raw_survives) fun _ _ _ _ _ _ us hl => match us, hl with | [_, _], _ => rfl
  have G15 : FnG P w C.K mg base 16 f15 _ ar_raw_survives (spOf C P_raw_survives.spec) := defM_ok (n := ⟨[], fnU 15, cnN, fnUp wlL 0, clN, Rk.f0⟩) (lm := false) F15 sc_raw_survives L15.nm CA.crs ck_raw_survives (fun z => by cases z)
  have L16 : Lib ⟨[], fnUp fnL 16, cnN, fnUp wlL 0, clN, Rk.f0⟩ S_survives.sig C P w mg base 16 := lib_step (by omega) L15 rfl (PySem.W.mg_of X G a15) rfl k15 b15 rfl G15
  have F16 := fun_mk (st := top 27) l16 c16 k16
  have b16 := F16.binds (ps := ar_survives) fun _ _ _ _ _ _ us hl => match us, hl with | [_, _], _ => rfl
  have G16 : FnG P w C.K mg base 17 f16 _ ar_survives (spOf C P_survives.spec) := defM_ok (n := ⟨[], fnU 16, cnN, fnUp wlL 0, clN, Rk.f0⟩) (lm := false) F16 sc_survives L16.nm CA.crs ck_survives (fun z => by cases z)
  have L17 : Lib ⟨[], fnUp fnL 17, cnN, fnUp wlL 0, clN, Rk.f0⟩ S_at_risk.sig C P w mg base 17 := lib_step (by omega) L16 rfl (PySem.W.mg_of X G a16) rfl k16 b16 rfl G16
  have F17 := fun_mk (st := top 28) l17 c17 k17
  have b17 := F17.binds (ps := ar_at_risk) fun _ _ _ _ _ _ us hl => match us, hl with | [_, _], _ => rfl
  have G17 : FnG P w C.K mg base 18 f17 _ ar_at_risk (spOf C P_at_risk.spec) := defM_ok (n := ⟨[], fnU 17, cnN, fnUp wlL 0, clN, Rk.f0⟩) (lm := false) F17 sc_at_risk L17.nm CA.crs ck_at_risk (fun z => by cases z)
  have L18 : Lib ⟨[], fnUp fnL 18, cnN, fnUp wlL 0, clN, Rk.f0⟩ S_ends_at.sig C P w mg base 18 := lib_step (by omega) L17 rfl (PySem.W.mg_of X G a17) rfl k17 b17 rfl G17
  have F18 := fun_mk (st := top 29) l18 c18 k18
  have b18 := F18.binds (ps := ar_ends_at) fun _ _ _ _ _ _ us hl => match us, hl with | [_, _], _ => rfl
  have G18 : FnG P w C.K mg base 19 f18 _ ar_ends_at (spOf C P_ends_at.spec) := defM_ok (n := ⟨[], fnU 18, cnN, fnUp wlL 0, clN, Rk.f0⟩) (lm := false) F18 sc_ends_at L18.nm CA.crs ck_ends_at (fun z => by cases z)
  have L19 : Lib ⟨[], fnUp fnL 19, cnN, fnUp wlL 0, clN, Rk.f0⟩ S_half_time.sig C P w mg base 19 := lib_step (by omega) L18 rfl (PySem.W.mg_of X G a18) rfl k18 b18 rfl G18
  have F19 := fun_mk (st := top 30) l19 c19 k19
  have b19 := F19.binds (ps := ar_half_time) fun _ _ _ _ _ _ us hl => match us, hl with | [_], _ => rfl
  have G19 : FnG P w C.K mg base 20 f19 _ ar_half_time (spOf C P_half_time.spec) := defM_ok (n := ⟨[], fnU 19, cnN, fnUp wlL 0, clN, Rk.f0⟩) (lm := false) F19 sc_half_time L19.nm CA.crs ck_half_time (fun z => by cases z)
  have L20 : Lib ⟨[], fnUp fnL 20, cnN, fnUp wlL 0, clN, Rk.f0⟩ S_without_lost.sig C P w mg base 20 := lib_step (by omega) L19 rfl (PySem.W.mg_of X G a19) rfl k19 b19 rfl G19
  have F20 := fun_mk (st := top 31) l20 c20 k20
  have b20 := F20.binds (ps := ar_without_lost) fun _ _ _ _ _ _ us hl => match us, hl with | [_], _ => rfl
  have G20 : FnG P w C.K mg base 21 f20 _ ar_without_lost (spOf C P_without_lost.spec) := defM_ok (n := ⟨[], fnU 20, cnN, fnUp wlL 0, clN, Rk.f0⟩) (lm := false) F20 sc_without_lost L20.nm CA.crs ck_without_lost (fun z => by cases z)
  have L21 : Lib ⟨[], fnUp fnL 21, cnN, fnUp wlL 0, clN, Rk.f0⟩ S__law_tape.sig C P w mg base 21 := lib_step (by omega) L20 rfl (PySem.W.mg_of X G a20) rfl k20 b20 rfl G20
  have F21 := fun_mk (st := top 33) l21 c21 k21
  have b21 := F21.binds (ps := ar__law_tape) fun _ _ _ _ _ _ us hl => match us, hl with | [_], _ => rfl
  have G21 : FnG P w C.K mg base 22 f21 _ ar__law_tape (spOf C P__law_tape.spec) := handM_ok (n := ⟨[], fnU 21, cnN, fnUp wlL 0, clN, Rk.f0⟩) F21 sc__law_tape rfl L21.nm CA.crs ck__law_tape mkTape mkTape_len mkTape_HK hd__law_tape
  have L22 : Lib ⟨[], fnUp fnL 22, cnN, fnUp wlL 0, clN, Rk.f0⟩ S__law_pick.sig C P w mg base 22 := lib_step (by omega) L21 rfl (PySem.W.mg_of X G a21) rfl k21 b21 rfl G21
  have F22 := fun_mk (st := top 34) l22 c22 k22
  have b22 := F22.binds (ps := ar__law_pick) fun _ _ _ _ _ _ us hl => match us, hl with | [_, _], _ => rfl
  have G22 : FnG P w C.K mg base 23 f22 _ ar__law_pick (spOf C P__law_pick.spec) := drawM_ok (n := ⟨[], fnU 22, cnN, fnUp wlL 0, clN, Rk.f0⟩) F22 sc__law_pick rfl L22.nm CA.crs ck__law_pick (draw_tape (fun _ _ => rfl) turn__law_pick)
  have L23 : Lib ⟨[], fnUp fnL 23, cnN, fnUp wlL 0, clN, Rk.f0⟩ S__law_any.sig C P w mg base 23 := lib_step (by omega) L22 rfl (PySem.W.mg_of X G a22) rfl k22 b22 rfl G22
  have F23 := fun_mk (st := top 35) l23 c23 k23
  have b23 := F23.binds (ps := ar__law_any) fun _ _ _ _ _ _ us hl => match us, hl with | [_, _], _ => rfl
  have G23 : FnG P w C.K mg base 24 f23 _ ar__law_any (spOf C P__law_any.spec) := defM_ok (n := ⟨[], fnU 23, cnN, fnUp wlL 0, clN, Rk.f0⟩) (lm := false) F23 sc__law_any L23.nm CA.crs ck__law_any (fun z => by cases z)
  have L24 : Lib ⟨[], fnUp fnL 24, cnN, fnUp wlL 0, clN, Rk.f0⟩ S__law_mixed.sig C P w mg base 24 := lib_step (by omega) L23 rfl (PySem.W.mg_of X G a23) rfl k23 b23 rfl G23
  have F24 := fun_mk (st := top 36) l24 c24 k24
  have b24 := F24.binds (ps := ar__law_mixed) fun _ _ _ _ _ _ us hl => match us, hl with | [_, _], _ => rfl
  have G24 : FnG P w C.K mg base 25 f24 _ ar__law_mixed (spOf C P__law_mixed.spec) := defM_ok (n := ⟨[], fnU 24, cnN, fnUp wlL 0, clN, Rk.f0⟩) (lm := false) F24 sc__law_mixed L24.nm CA.crs ck__law_mixed (fun z => by cases z)
  have L25 : Lib ⟨[], fnUp fnL 25, cnN, fnUp wlL 0, clN, Rk.f0⟩ S__law_shared.sig C P w mg base 25 := lib_step (by omega) L24 rfl (PySem.W.mg_of X G a24) rfl k24 b24 rfl G24
  have F25 := fun_mk (st := top 37) l25 c25 k25
  have b25 := F25.binds (ps := ar__law_shared) fun _ _ _ _ _ _ us hl => match us, hl with | [_, _], _ => rfl
  have G25 : FnG P w C.K mg base 26 f25 _ ar__law_shared (spOf C P__law_shared.spec) := defM_ok (n := ⟨[], fnU 25, cnN, fnUp wlL 0, clN, Rk.f0⟩) (lm := false) F25 sc__law_shared L25.nm CA.crs ck__law_shared (fun z => by cases z)
  have L26 : Lib ⟨[], fnUp fnL 26, cnN, fnUp wlL 0, clN, Rk.f0⟩ S__law_over.sig C P w mg base 26 := lib_step (by omega) L25 rfl (PySem.W.mg_of X G a25) rfl k25 b25 rfl G25
  have F26 := fun_mk (st := top 38) l26 c26 k26
  have b26 := F26.binds (ps := ar__law_over) fun _ _ _ _ _ _ us hl => match us, hl with | [_, _], _ => rfl
  have G26 : FnG P w C.K mg base 27 f26 _ ar__law_over (spOf C P__law_over.spec) := defM_ok (n := ⟨[], fnU 26, cnN, fnUp wlL 0, clN, Rk.f0⟩) (lm := false) F26 sc__law_over L26.nm CA.crs ck__law_over (fun z => by cases z)
  have L27 : Lib ⟨[], fnUp fnL 27, cnN, fnUp wlL 0, clN, Rk.f0⟩ S__law_times.sig C P w mg base 27 := lib_step (by omega) L26 rfl (PySem.W.mg_of X G a26) rfl k26 b26 rfl G26
  have F27 := fun_mk (st := top 39) l27 c27 k27
  have b27 := F27.binds (ps := ar__law_times) fun _ _ _ _ _ _ us hl => match us, hl with | [_, _], _ => rfl
  have G27 : FnG P w C.K mg base 28 f27 _ ar__law_times (spOf C P__law_times.spec) := defM_ok (n := ⟨[], fnU 27, cnN, fnUp wlL 0, clN, Rk.f0⟩) (lm := false) F27 sc__law_times L27.nm CA.crs ck__law_times (fun z => by cases z)
  have L28 : Lib ⟨[], fnUp fnL 28, cnN, fnUp wlL 0, clN, Rk.f0⟩ S__law_seen.sig C P w mg base 28 := lib_step (by omega) L27 rfl (PySem.W.mg_of X G a27) rfl k27 b27 rfl G27
  have F28 := fun_mk (st := top 40) l28 c28 k28
  have b28 := F28.binds (ps := ar__law_seen) fun _ _ _ _ _ _ us hl => match us, hl with | [_], _ => rfl
  have G28 : FnG P w C.K mg base 29 f28 _ ar__law_seen (spOf C P__law_seen.spec) := defM_ok (n := ⟨[], fnU 28, cnN, fnUp wlL 0, clN, Rk.f0⟩) (lm := false) F28 sc__law_seen L28.nm CA.crs ck__law_seen (fun z => by cases z)
  have L29 : Lib ⟨[], fnUp fnL 29, cnN, fnUp wlL 0, clN, Rk.f0⟩ S__law_risk.sig C P w mg base 29 := lib_step (by omega) L28 rfl (PySem.W.mg_of X G a28) rfl k28 b28 rfl G28
  have F29 := fun_mk (st := top 41) l29 c29 k29
  have b29 := F29.binds (ps := ar__law_risk) fun _ _ _ _ _ _ us hl => match us, hl with | [_, _], _ => rfl
  have G29 : FnG P w C.K mg base 30 f29 _ ar__law_risk (spOf C P__law_risk.spec) := defM_ok (n := ⟨[], fnU 29, cnN, fnUp wlL 0, clN, Rk.f0⟩) (lm := false) F29 sc__law_risk L29.nm CA.crs ck__law_risk (fun z => by cases z)
  have L30 : Lib ⟨[], fnUp fnL 30, cnN, fnUp wlL 0, clN, Rk.f0⟩ S__law_ends.sig C P w mg base 30 := lib_step (by omega) L29 rfl (PySem.W.mg_of X G a29) rfl k29 b29 rfl G29
  have F30 := fun_mk (st := top 42) l30 c30 k30
  have b30 := F30.binds (ps := ar__law_ends) fun _ _ _ _ _ _ us hl => match us, hl with | [_, _], _ => rfl
  have G30 : FnG P w C.K mg base 31 f30 _ ar__law_ends (spOf C P__law_ends.spec) := defM_ok (n := ⟨[], fnU 30, cnN, fnUp wlL 0, clN, Rk.f0⟩) (lm := false) F30 sc__law_ends L30.nm CA.crs ck__law_ends (fun z => by cases z)
  have L31 : Lib ⟨[], fnUp fnL 31, cnN, fnUp wlL 0, clN, Rk.f0⟩ S__law_times_of.sig C P w mg base 31 := lib_step (by omega) L30 rfl (PySem.W.mg_of X G a30) rfl k30 b30 rfl G30
  have F31 := fun_mk (st := top 43) l31 c31 k31
  have b31 := F31.binds (ps := ar__law_times_of) fun _ _ _ _ _ _ us hl => match us, hl with | [_], _ => rfl
  have G31 : FnG P w C.K mg base 32 f31 _ ar__law_times_of (spOf C P__law_times_of.spec) := defM_ok (n := ⟨[], fnU 31, cnN, fnUp wlL 0, clN, Rk.f0⟩) (lm := false) F31 sc__law_times_of L31.nm CA.crs ck__law_times_of (fun z => by cases z)
  have L32 : Lib ⟨[], fnUp fnL 32, cnN, fnUp wlL 0, clN, Rk.f0⟩ S__law_curve.sig C P w mg base 32 := lib_step (by omega) L31 rfl (PySem.W.mg_of X G a31) rfl k31 b31 rfl G31
  have F32 := fun_mk (st := top 44) l32 c32 k32
  have b32 := F32.binds (ps := ar__law_curve) fun _ _ _ _ _ _ us hl => match us, hl with | [_], _ => rfl
  have G32 : FnG P w C.K mg base 33 f32 _ ar__law_curve (spOf C P__law_curve.spec) := defM_ok (n := ⟨[], fnU 32, cnN, fnUp wlL 0, clN, Rk.f0⟩) (lm := false) F32 sc__law_curve L32.nm CA.crs ck__law_curve (fun z => by cases z)
  have L33 : Lib ⟨[], fnUp fnL 33, cnN, fnUp wlL 0, clN, Rk.f0⟩ S__law_no_seen.sig C P w mg base 33 := lib_step (by omega) L32 rfl (PySem.W.mg_of X G a32) rfl k32 b32 rfl G32
  have F33 := fun_mk (st := top 45) l33 c33 k33
  have b33 := F33.binds (ps := ar__law_no_seen) fun _ _ _ _ _ _ us hl => match us, hl with | [_], _ => rfl
  have G33 : FnG P w C.K mg base 34 f33 _ ar__law_no_seen (spOf C P__law_no_seen.spec) := defM_ok (n := ⟨[], fnU 33, cnN, fnUp wlL 0, clN, Rk.f0⟩) (lm := false) F33 sc__law_no_seen L33.nm CA.crs ck__law_no_seen (fun z => by cases z)
  have L34 : Lib ⟨[], fnUp fnL 34, cnN, fnUp wlL 0, clN, Rk.f0⟩ S__law_word.sig C P w mg base 34 := lib_step (by omega) L33 rfl (PySem.W.mg_of X G a33) rfl k33 b33 rfl G33
  have F34 := fun_mk (st := top 46) l34 c34 k34
  have b34 := F34.binds (ps := ar__law_word) fun _ _ _ _ _ _ us hl => match us, hl with | [_], _ => rfl
  have G34 := wordM_ok (n := ⟨[], fnU 34, cnN, fnUp wlL 0, clN, Rk.f0⟩) F34 sc__law_word b34 k34 L34.nm CA.crs ck__law_word
  have L35 : Lib ⟨[], fnUp fnL 35, cnN, fnUp wlL 1, clN, Rk.f0⟩ S__law_is_right.sig C P w mg base 35 := lib_word L34 rfl rfl (PySem.W.mg_of X G a34) rfl k34 b34 rfl (by first | exact .inl rfl | exact .inr (.inl rfl)) (by decide) G34
  have F35 := fun_mk (st := top 47) l35 c35 k35
  have b35 := F35.binds (ps := ar__law_is_right) fun _ _ _ _ _ _ us hl => match us, hl with | [_, _], _ => rfl
  have G35 : FnG P w C.K mg base 36 f35 _ ar__law_is_right (spOf C P__law_is_right.spec) := defM_ok (n := ⟨[], fnU 35, cnN, fnUp wlL 1, clN, Rk.f0⟩) (lm := false) F35 sc__law_is_right L35.nm CA.crs ck__law_is_right (fun z => by cases z)
  have L36 : Lib ⟨[], fnUp fnL 36, cnN, fnUp wlL 1, clN, Rk.f0⟩ S__law_word_of.sig C P w mg base 36 := lib_step (by omega) L35 rfl (PySem.W.mg_of X G a35) rfl k35 b35 rfl G35
  have F36 := fun_mk (st := top 49) l36 c36 k36
  have b36 := F36.binds (ps := ar__law_word_of) fun _ _ _ _ _ _ us hl => match us, hl with | [_, _], _ => rfl
  have G36 : FnG P w C.K mg base 39 f36 _ ar__law_word_of (spOf C P__law_word_of.spec) := defM_ok (n := ⟨[], fnU 36, cnN, fnUp wlL 1, clN, Rk.f0⟩) (lm := true) F36 sc__law_word_of L36.nm CA.crs ck__law_word_of (fun _ => ⟨ca36, pt36, tB ca36 (pt36, lamN "_law_word_of") (by show _ ∈ ([(pt36, lamN "_law_word_of"), (pt37, lamN "_law_word_by")] : List (Addr × Str)); simp only [List.mem_cons, true_or, or_true]) t36.2, ⟨_, _, _, _, l36, rfl⟩, (by show _ ∈ ([(pt36, lamN "_law_word_of"), (pt37, lamN "_law_word_by")] : List (Addr × Str)); simp only [List.mem_cons, true_or, or_true]), tb_uniq (T := [(pt36, lamN "_law_word_of"), (pt37, lamN "_law_word_by")]) tu (by simp only [List.mem_cons, true_or, or_true])⟩)
  have L37 : Lib ⟨[], fnUp fnL 37, cnN, fnUp wlL 1, clN, Rk.f0⟩ S__law_word_by.sig C P w mg base 39 := lib_step (by omega) L36 rfl (PySem.W.mg_of X G a36) rfl k36 b36 rfl G36
  have F37 := fun_mk (st := top 50) l37 c37 k37
  have b37 := F37.binds (ps := ar__law_word_by) fun _ _ _ _ _ _ us hl => match us, hl with | [_, _, _], _ => rfl
  have G37 : FnG P w C.K mg base 42 f37 _ ar__law_word_by (spOf C P__law_word_by.spec) := defM_ok (n := ⟨[], fnU 37, cnN, fnUp wlL 1, clN, Rk.f0⟩) (lm := true) F37 sc__law_word_by L37.nm CA.crs ck__law_word_by (fun _ => ⟨ca37, pt37, tB ca37 (pt37, lamN "_law_word_by") (by show _ ∈ ([(pt36, lamN "_law_word_of"), (pt37, lamN "_law_word_by")] : List (Addr × Str)); simp only [List.mem_cons, true_or, or_true]) t37.2, ⟨_, _, _, _, l37, rfl⟩, (by show _ ∈ ([(pt36, lamN "_law_word_of"), (pt37, lamN "_law_word_by")] : List (Addr × Str)); simp only [List.mem_cons, true_or, or_true]), tb_uniq (T := [(pt36, lamN "_law_word_of"), (pt37, lamN "_law_word_by")]) tu (by simp only [List.mem_cons, true_or, or_true])⟩)
  have L38 : Lib ⟨[], fnUp fnL 38, cnN, fnUp wlL 1, clN, Rk.f0⟩ S__law_is_refused.sig C P w mg base 42 := lib_step (by omega) L37 rfl (PySem.W.mg_of X G a37) rfl k37 b37 rfl G37
  have F38 := fun_mk (st := top 48) l38 c38 k38
  have b38 := F38.binds (ps := ar__law_is_refused) fun _ _ _ _ _ _ us hl => match us, hl with | [_, _], _ => rfl
  have G38 : FnG P w C.K mg base 43 f38 _ ar__law_is_refused (spOf C P__law_is_refused.spec) := defM_ok (n := ⟨[], fnU 38, cnN, fnUp wlL 1, clN, Rk.f0⟩) (lm := false) F38 sc__law_is_refused L38.nm CA.crs ck__law_is_refused (fun z => by cases z)
  have L39 : Lib ⟨[], fnUp fnL 39, cnN, fnUp wlL 1, clN, Rk.f0⟩ S_law.sig C P w mg base 43 := lib_step (by omega) L38 rfl (PySem.W.mg_of X G a38) rfl k38 b38 rfl G38
  have F39 := fun_mk (st := top 51) l39 c39 k39
  have b39 := F39.binds (ps := ar_law) fun _ _ _ _ _ _ us hl => match us, hl with | [_], _ => rfl
  have G39 : FnG P w C.K mg base 44 f39 _ ar_law (spOf C P_law.spec) := defM_ok (n := ⟨[], fnU 39, cnN, fnUp wlL 1, clN, Rk.f0⟩) (lm := false) F39 sc_law L39.nm CA.crs ck_law (fun z => by cases z)
  exact G39
end Lk20
open PySem PySem.W PyProof.Rows in
set_option maxRecDepth 100000 in
set_option maxHeartbeats 0 in
theorem PySem.Challenge.cw_riskhouse_k20_whole_curves_of_survival_holds : PySem.Challenge.rw_riskhouse_k20_whole_curves_of_survival.Holds := by
  w_on; o_law; k_head; (case hw => w_witness2)
  k_fill
  refine Rk.walk_end (l := PySem.Challenge.rw_riskhouse_k20_whole_curves_of_survival) (nm := 63) (k := 44) (x := "script") rfl (by decide) rfl ⟨by decide, by decide, by decide⟩ (fun w h Y => PySem.W.km_in_of Y) ?F
  case F =>
    intro w mg fa h X Y KX G hmg
    have hT8 := PySem.W.km_tabs_of Y
    refine' Lk20.all_mk KX G hmg  ?qa0 ?ql0 ?qc0 ?qk0 ?qa1 ?ql1 ?qc1 ?qk1 ?qa2 ?ql2 ?qc2 ?qk2 ?qa3 ?ql3 ?qc3 ?qk3 ?qa4 ?ql4 ?qc4 ?qk4 ?qa5 ?ql5 ?qc5 ?qk5 ?qa6 ?ql6 ?qc6 ?qk6 ?qa7 ?ql7 ?qc7 ?qk7 ?qa8 ?ql8 ?qc8 ?qk8 ?qa9 ?ql9 ?qc9 ?qk9 ?qa10 ?ql10 ?qc10 ?qk10 ?qa11 ?ql11 ?qc11 ?qk11 ?qa12 ?ql12 ?qc12 ?qk12 ?qa13 ?ql13 ?qc13 ?qk13 ?qa14 ?ql14 ?qc14 ?qk14 ?qa15 ?ql15 ?qc15 ?qk15 ?qa16 ?ql16 ?qc16 ?qk16 ?qa17 ?ql17 ?qc17 ?qk17 ?qa18 ?ql18 ?qc18 ?qk18 ?qa19 ?ql19 ?qc19 ?qk19 ?qa20 ?ql20 ?qc20 ?qk20 ?qa21 ?ql21 ?qc21 ?qk21 ?qa22 ?ql22 ?qc22 ?qk22 ?qa23 ?ql23 ?qc23 ?qk23 ?qa24 ?ql24 ?qc24 ?qk24 ?qa25 ?ql25 ?qc25 ?qk25 ?qa26 ?ql26 ?qc26 ?qk26 ?qa27 ?ql27 ?qc27 ?qk27 ?qa28 ?ql28 ?qc28 ?qk28 ?qa29 ?ql29 ?qc29 ?qk29 ?qa30 ?ql30 ?qc30 ?qk30 ?qa31 ?ql31 ?qc31 ?qk31 ?qa32 ?ql32 ?qc32 ?qk32 ?qa33 ?ql33 ?qc33 ?qk33 ?qa34 ?ql34 ?qc34 ?qk34 ?qa35 ?ql35 ?qc35 ?qk35 ?qa36 ?ql36 ?qc36 ?qk36 ?qa37 ?ql37 ?qc37 ?qk37 ?qa38 ?ql38 ?qc38 ?qk38 ?qa39 ?ql39 ?qc39 ?qk39 ?qt36 ?qn36 ?qt37 ?qn37 ?qtu ?qe0 ?qe1 ?qe2 ?qec ?qz_len ?qz_sum ?qz_min ?qz_max ?qz_abs ?qz_int ?qz_str ?qz_tuple ?qz_list ?qz_sorted ?qz_all ?qz_any ?qz_repr ?qz_bool ?qz_dict ?qz_range ?qz_zip ?qz_enumerate ?qz_isinstance ?qz_ValueError ?qx_WHOLE ?qy_WHOLE ?qx_MOST_SEEN ?qx_MOST_TIME ?qx_HALF ?qy_HALF
    (case qa0 => k_is)
    (case ql0 => k_is)
    (case qc0 => k_is)
    (case qk0 => k_is)
    (case qa1 => k_is)
    (case ql1 => k_is)
    (case qc1 => k_is)
    (case qk1 => k_is)
    (case qa2 => k_is)
    (case ql2 => k_is)
    (case qc2 => k_is)
    (case qk2 => k_is)
    (case qa3 => k_is)
    (case ql3 => k_is)
    (case qc3 => k_is)
    (case qk3 => k_is)
    (case qa4 => k_is)
    (case ql4 => k_is)
    (case qc4 => k_is)
    (case qk4 => k_is)
    (case qa5 => k_is)
    (case ql5 => k_is)
    (case qc5 => k_is)
    (case qk5 => k_is)
    (case qa6 => k_is)
    (case ql6 => k_is)
    (case qc6 => k_is)
    (case qk6 => k_is)
    (case qa7 => k_is)
    (case ql7 => k_is)
    (case qc7 => k_is)
    (case qk7 => k_is)
    (case qa8 => k_is)
    (case ql8 => k_is)
    (case qc8 => k_is)
    (case qk8 => k_is)
    (case qa9 => k_is)
    (case ql9 => k_is)
    (case qc9 => k_is)
    (case qk9 => k_is)
    (case qa10 => k_is)
    (case ql10 => k_is)
    (case qc10 => k_is)
    (case qk10 => k_is)
    (case qa11 => k_is)
    (case ql11 => k_is)
    (case qc11 => k_is)
    (case qk11 => k_is)
    (case qa12 => k_is)
    (case ql12 => k_is)
    (case qc12 => k_is)
    (case qk12 => k_is)
    (case qa13 => k_is)
    (case ql13 => k_is)
    (case qc13 => k_is)
    (case qk13 => k_is)
    (case qa14 => k_is)
    (case ql14 => k_is)
    (case qc14 => k_is)
    (case qk14 => k_is)
    (case qa15 => k_is)
    (case ql15 => k_is)
    (case qc15 => k_is)
    (case qk15 => k_is)
    (case qa16 => k_is)
    (case ql16 => k_is)
    (case qc16 => k_is)
    (case qk16 => k_is)
    (case qa17 => k_is)
    (case ql17 => k_is)
    (case qc17 => k_is)
    (case qk17 => k_is)
    (case qa18 => k_is)
    (case ql18 => k_is)
    (case qc18 => k_is)
    (case qk18 => k_is)
    (case qa19 => k_is)
    (case ql19 => k_is)
    (case qc19 => k_is)
    (case qk19 => k_is)
    (case qa20 => k_is)
    (case ql20 => k_is)
    (case qc20 => k_is)
    (case qk20 => k_is)
    (case qa21 => k_is)
    (case ql21 => k_is)
    (case qc21 => k_is)
    (case qk21 => k_is)
    (case qa22 => k_is)
    (case ql22 => k_is)
    (case qc22 => k_is)
    (case qk22 => k_is)
    (case qa23 => k_is)
    (case ql23 => k_is)
    (case qc23 => k_is)
    (case qk23 => k_is)
    (case qa24 => k_is)
    (case ql24 => k_is)
    (case qc24 => k_is)
    (case qk24 => k_is)
    (case qa25 => k_is)
    (case ql25 => k_is)
    (case qc25 => k_is)
    (case qk25 => k_is)
    (case qa26 => k_is)
    (case ql26 => k_is)
    (case qc26 => k_is)
    (case qk26 => k_is)
    (case qa27 => k_is)
    (case ql27 => k_is)
    (case qc27 => k_is)
    (case qk27 => k_is)
    (case qa28 => k_is)
    (case ql28 => k_is)
    (case qc28 => k_is)
    (case qk28 => k_is)
    (case qa29 => k_is)
    (case ql29 => k_is)
    (case qc29 => k_is)
    (case qk29 => k_is)
    (case qa30 => k_is)
    (case ql30 => k_is)
    (case qc30 => k_is)
    (case qk30 => k_is)
    (case qa31 => k_is)
    (case ql31 => k_is)
    (case qc31 => k_is)
    (case qk31 => k_is)
    (case qa32 => k_is)
    (case ql32 => k_is)
    (case qc32 => k_is)
    (case qk32 => k_is)
    (case qa33 => k_is)
    (case ql33 => k_is)
    (case qc33 => k_is)
    (case qk33 => k_is)
    (case qa34 => k_is)
    (case ql34 => k_is)
    (case qc34 => k_is)
    (case qk34 => k_is)
    (case qa35 => k_is)
    (case ql35 => k_is)
    (case qc35 => k_is)
    (case qk35 => k_is)
    (case qa36 => k_is)
    (case ql36 => k_is)
    (case qc36 => k_is)
    (case qk36 => k_is)
    (case qa37 => k_is)
    (case ql37 => k_is)
    (case qc37 => k_is)
    (case qk37 => k_is)
    (case qa38 => k_is)
    (case ql38 => k_is)
    (case qc38 => k_is)
    (case qk38 => k_is)
    (case qa39 => k_is)
    (case ql39 => k_is)
    (case qc39 => k_is)
    (case qk39 => k_is)
    (case qt36 => exact ⟨hT8 _ (.tail _ (.head _)), PySem.W.codeHd_of_K KX (by kernel_rfl)⟩)
    (case qn36 => kernel_rfl)
    (case qt37 => exact ⟨hT8 _ (.head _), PySem.W.codeHd_of_K KX (by kernel_rfl)⟩)
    (case qn37 => kernel_rfl)
    (case qtu => decide)
    (case qe0 => k_is)
    (case qe1 => k_is)
    (case qe2 => k_is)
    (case qec => kernel_rfl)
    (case qz_len => k_is)
    (case qz_sum => k_is)
    (case qz_min => k_is)
    (case qz_max => k_is)
    (case qz_abs => k_is)
    (case qz_int => k_is)
    (case qz_str => k_is)
    (case qz_tuple => k_is)
    (case qz_list => k_is)
    (case qz_sorted => k_is)
    (case qz_all => k_is)
    (case qz_any => k_is)
    (case qz_repr => k_is)
    (case qz_bool => k_is)
    (case qz_dict => k_is)
    (case qz_range => k_is)
    (case qz_zip => k_is)
    (case qz_enumerate => k_is)
    (case qz_isinstance => k_is)
    (case qz_ValueError => k_is)
    (case qx_WHOLE => k_is)
    (case qy_WHOLE => k_is)
    (case qx_MOST_SEEN => k_is)
    (case qx_MOST_TIME => k_is)
    (case qx_HALF => k_is)
    (case qy_HALF => k_is)

