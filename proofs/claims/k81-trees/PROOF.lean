import PyProof.Rows.All
import Wide.All
import OpenK.AllK
import Wide.FinOn
import HandS.ForMost
import HandS.ForExc
import HandS.ExcInit
import HandS.ExcField
import HandS.Wide
import HandS.WideMore
import HandS.WideBits
import HandS.IsInst
import HandS.Evl
import HandS.Defaults
import HandS.Head0
import HandS.Head1
import HandS.Head2
import HandS.HeadEnd
import HandS.HeadHook1
import HandS.HeadHook2
import HandS.ExcIs
import HandS.TryOnly
import KE.KExcIs
import PyProof.MaxThree
import HandS.EndBits
import HandS.Style
import HandS.SortInts
import HandS.Rev
import PyProof.ExcBaseAll.ValueError
import HandS.Deep
import HandS.OwnEq
import HandS.TupMul
import HandS.TupAny
import PySem.Challenge.RW_fullsides_k81_trees
set_option Elab.async false
set_option linter.all false
set_option maxRecDepth 100000
set_option maxHeartbeats 4000000
/-! Pure trees for what the program holds; what a reading of the hand layer gives, told over such trees. -/
namespace Py
open PySem L2 PySem.Spec PyProof.Rows Evl

/-! ### trees -/
/-- who owns a changeable thing: the depth of a call, the slot of its frame -/
abbrev Tag := Nat × Nat
inductive T where
  | non
  | bl (b : Bool)
  | int (i : Int)
  | str (s : Str)
  | lst (g : Option Tag) (ts : List T)
  | tup (ts : List T)
  | ro (ts : List T)
  | ins (g : Option Tag) (c : Nat) (ns : List Str) (ts : List T)
  | exn (c : Nat) (ns : List Str) (ts : List T)
  deriving Inhabited
structure Exn where
  c : Nat
  ns : List Str
  ts : List T
inductive Res (α : Type) where
  | ok (a : α)
  | er (e : Exn)
  | stuck
theorem nrfl {α : Sort u} {a b : α} (h : a = b) : a = b := h
def Res.bind {α β : Type} (r : Res α) (f : α → Res β) : Res β := match r with
  | .ok a => f a
  | .er e => .er e
  | .stuck => .stuck
def Res.of {α : Type} : Option α → Res α
  | some a => .ok a
  | none => .stuck
@[simp] theorem Res.bind_ok {α β : Type} (a : α) (f : α → Res β) : Res.bind (.ok a) f = f a := nrfl rfl
@[simp] theorem Res.bind_er {α β : Type} (e : Exn) (f : α → Res β) : Res.bind (.er e) f = .er e := nrfl rfl
@[simp] theorem Res.bind_stuck {α β : Type} (f : α → Res β) : Res.bind (.stuck) f = .stuck := nrfl rfl
@[simp] theorem Res.of_some {α : Type} (a : α) : Res.of (some a) = .ok a := nrfl rfl

/-! ### what stands for a tree -/
abbrev Al := Tag → Option Addr
/-- the classes' addresses; the exception that a suite holds: where it stands, its class, its dict -/
structure Cl where
  f : Nat → Addr
  xh : Option (Addr × Value × Option Addr) := none
  pin : Option (Nat × Addr) := none
structure Ge where
  K : PySem.W.Frag
  c : Cl
def Ge.cl (G : Ge) (n : Nat) : Addr := G.c.f n
def tagOk (A : Al) (g : Option Tag) (a : Addr) : Prop := match g with
  | none => ∀ g, A g ≠ some a
  | some g => A g = some a
mutual
def rep (G : Ge) (A : Al) (F : Hp) : T → V → Prop
  | .non, v => v = .non
  | .bl b, v => v = .bl b
  | .int i, v => v = .int i
  | .str s, v => v = .str s
  | .lst g ts, v => ∃ a vs, v = .ref a ∧ F a = some (.lst vs) ∧ tagOk A g a ∧ reps G A F ts vs
  | .tup ts, v => ∃ a vs, v = .ref a ∧ SqT G.K F a vs ∧ reps G A F ts vs
  | .ro ts, v => ∃ a vs, v = .ref a ∧ SqL G.K F a vs ∧ reps G A F ts vs
  | .ins g c ns ts, v => ∃ a dx vs, v = .ref a ∧ F a = some (.ins (G.cl c) dx (ns.zip vs)) ∧ vs.length = ns.length ∧ tagOk A g a ∧ reps G A F ts vs
  | .exn c ns ts, v => ∃ a cls dx, G.c.xh = some (a, cls, dx) ∧ v = .ref a ∧ cls = .ref (G.cl c) ∧ ((ns = [] ∧ ts = [] ∧ dx = none) ∨ ∃ dd vs, dx = some dd ∧ F dd = some (.xd (ns.zip vs)) ∧ vs.length = ns.length ∧ reps G A F ts vs)
def reps (G : Ge) (A : Al) (F : Hp) : List T → List V → Prop
  | [], vs => vs = []
  | t :: ts, vs => ∃ v ws, vs = v :: ws ∧ rep G A F t v ∧ reps G A F ts ws
end
section
variable {G : Ge} {A : Al} {F F' H H' : Hp}
mutual
theorem rep.mono (e : Ex F F') : ∀ {t : T} {v : V}, rep G A F t v → rep G A F' t v
  | .non, _, h => h
  | .bl _, _, h => h
  | .int _, _, h => h
  | .str _, _, h => h
  | .lst _ _, _, ⟨a, vs, h1, h2, h3, h4⟩ => ⟨a, vs, h1, e _ _ h2, h3, reps.mono e h4⟩
  | .tup _, _, ⟨a, vs, h1, h2, h3⟩ => ⟨a, vs, h1, ex_t e h2, reps.mono e h3⟩
  | .ro _, _, ⟨a, vs, h1, h2, h3⟩ => ⟨a, vs, h1, ex_l e h2, reps.mono e h3⟩
  | .ins _ _ _ _, _, ⟨a, dx, vs, h1, h2, h3, h4, h5⟩ => ⟨a, dx, vs, h1, e _ _ h2, h3, h4, reps.mono e h5⟩
  | .exn _ _ _, _, ⟨a, cls, dx, h1, h2, h3, h4⟩ => ⟨a, cls, dx, h1, h2, h3, match h4 with
    | .inl z => .inl z
    | .inr ⟨dd, vs, k1, k2, k3, k4⟩ => .inr ⟨dd, vs, k1, e _ _ k2, k3, reps.mono e k4⟩⟩
theorem reps.mono (e : Ex F F') : ∀ {ts : List T} {vs : List V}, reps G A F ts vs → reps G A F' ts vs
  | [], _, h => h
  | _ :: _, _, ⟨v, ws, h1, h2, h3⟩ => ⟨v, ws, h1, rep.mono e h2, reps.mono e h3⟩
end
theorem reps.length : ∀ {ts : List T} {vs : List V}, reps G A F ts vs → vs.length = ts.length
  | [], vs, h => by
    have e : vs = [] := h
    rw [e] <;> rfl
  | _ :: _, _, ⟨v, ws, h1, h2, h3⟩ => by rw [h1, List.length_cons, List.length_cons, reps.length h3]
theorem reps.get : ∀ {ts : List T} {vs : List V} {i : Nat} {t : T}, reps G A F ts vs → ts[i]? = some t → ∃ v, vs[i]? = some v ∧ rep G A F t v
  | t :: ts, _, 0, u, ⟨v, ws, h1, h2, h3⟩, e => by
    rw [h1]
    have e' : t = u := Option.some.inj e
    subst e'
    exact ⟨v, rfl, h2⟩
  | t :: ts, _, i + 1, u, ⟨v, ws, h1, h2, h3⟩, e => by
    rw [h1]
    exact reps.get (i := i) h3 e
theorem reps.getV : ∀ {ts : List T} {vs : List V} {i : Nat} {v : V}, reps G A F ts vs → vs[i]? = some v → ∃ t, ts[i]? = some t ∧ rep G A F t v := fun {ts vs i v} h e => by
  have hi : i < ts.length := by
    rw [← h.length]
    exact (List.getElem?_eq_some_iff.mp e).1
  obtain ⟨v', e', r⟩ := h.get (List.getElem?_eq_getElem hi)
  rw [e] at e'
  cases e'
  exact ⟨_, List.getElem?_eq_getElem hi, r⟩
theorem reps.append : ∀ {ts us : List T} {vs ws : List V}, reps G A F ts vs → reps G A F us ws → reps G A F (ts ++ us) (vs ++ ws)
  | [], _, _, _, h, k => by rw [show _ = [] from h]; exact k
  | _ :: _, _, _, _, ⟨v, ws, h1, h2, h3⟩, k => by rw [h1]; exact ⟨v, _, rfl, h2, h3.append k⟩
theorem reps.one {t : T} {v : V} (h : rep G A F t v) : reps G A F [t] [v] := ⟨v, [], rfl, h, rfl⟩
theorem reps.set : ∀ {ts : List T} {vs : List V} (i : Nat) {t : T} {v : V}, reps G A F ts vs → rep G A F t v → reps G A F (ts.set i t) (vs.set i v)
  | [], _, _, _, _, h, _ => by rw [show _ = [] from h]; rfl
  | _ :: _, _, 0, _, _, ⟨v, ws, h1, h2, h3⟩, r => by rw [h1]; exact ⟨_, _, rfl, r, h3⟩
  | _ :: _, _, i + 1, _, _, ⟨v, ws, h1, h2, h3⟩, r => by rw [h1]; exact ⟨_, _, rfl, h2, reps.set i h3 r⟩
theorem reps.take : ∀ {ts : List T} {vs : List V} (n : Nat), reps G A F ts vs → reps G A F (ts.take n) (vs.take n)
  | _, _, 0, _ => rfl
  | [], _, n + 1, h => by rw [show _ = [] from h]; rfl
  | _ :: _, _, n + 1, ⟨v, ws, h1, h2, h3⟩ => by rw [h1]; exact ⟨_, _, rfl, h2, reps.take n h3⟩
theorem reps.drop : ∀ {ts : List T} {vs : List V} (n : Nat), reps G A F ts vs → reps G A F (ts.drop n) (vs.drop n)
  | _, _, 0, h => h
  | [], _, n + 1, h => by rw [show _ = [] from h]; rfl
  | _ :: _, _, n + 1, ⟨v, ws, h1, h2, h3⟩ => by rw [h1]; exact reps.drop n h3
theorem reps.reverse : ∀ {ts : List T} {vs : List V}, reps G A F ts vs → reps G A F ts.reverse vs.reverse
  | [], _, h => by rw [show _ = [] from h]; rfl
  | _ :: _, _, ⟨v, ws, h1, h2, h3⟩ => by
    rw [h1, List.reverse_cons, List.reverse_cons]
    exact (reps.reverse h3).append (reps.one h2)
theorem reps.of_get : ∀ {ts : List T} {vs : List V}, vs.length = ts.length → (∀ (i : Nat) (t : T) (v : V), ts[i]? = some t → vs[i]? = some v → rep G A F t v) → reps G A F ts vs
  | [], [], _, _ => rfl
  | [], _ :: _, h, _ => by simp at h
  | _ :: _, [], h, _ => by simp at h
  | t :: ts, v :: vs, h, k => ⟨v, vs, rfl, k 0 t v rfl rfl, reps.of_get (by simpa using h) fun i t v a b => k (i + 1) t v a b⟩

/-! ### heaps that grow: F the part that stays as it is, H all -/
structure Grow (F H F1 H1 : Hp) : Prop where
  ex : Ex F F1
  sub : Ex F1 H1
  keep : Ex H H1
  sep : ∀ a, F a = none → H a ≠ none → F1 a = none
theorem Grow.refl (e : Ex F H) : Grow F H F H := ⟨Ex.refl _, e, Ex.refl _, fun _ h _ => h⟩
theorem none_of_ex {F H : Hp} (e : Ex F H) {a : Addr} (h : H a = none) : F a = none := fresh_back e h
theorem Grow.trans {F1 H1 F2 H2 : Hp} (a : Grow F H F1 H1) (b : Grow F1 H1 F2 H2) : Grow F H F2 H2 :=
  ⟨a.ex.trans b.ex, b.sub, a.keep.trans b.keep, fun x h1 h2 => b.sep x (a.sep x h1 h2) fun z => h2 (none_of_ex a.keep z)⟩
theorem ex_upd {p : Addr} {o : HO} (e : Ex F H) : Ex (upd F p o) (upd H p o) := fun a u h => by
  by_cases hp : a = p
  · subst hp
    rw [upd_same] at h ⊢
    exact h
  · rw [upd_ne hp] at h ⊢
    exact e a u h
theorem Grow.new {p : Addr} {o : HO} (e : Ex F H) (h : H p = none) : Grow F H (upd F p o) (upd H p o) :=
  ⟨Ex.new (none_of_ex e h), ex_upd e, Ex.new h, fun a h1 h2 => by
    rw [upd_ne (fun z => h2 (by rw [z]; exact h))]
    exact h1⟩
/-- garbage: only H grows -/
theorem Grow.junk {p : Addr} {o : HO} (e : Ex F H) (h : H p = none) : Grow F H F (upd H p o) := ⟨Ex.refl _, e.trans (Ex.new h), Ex.new h, fun _ h1 _ => h1⟩

/-! ### frames -/
inductive Sl where
  | fz (t : T)
  | ol (ts : List T)
  | oi (c : Nat) (ns : List Str) (ts : List T)
abbrev Fv := List (Option Sl)
def rd (d i : Nat) (env : Fv) : Option T := match env[i]? with
  | some (some (.fz t)) => some t
  | some (some (.ol ts)) => some (.lst (some (d, i)) ts)
  | some (some (.oi c ns ts)) => some (.ins (some (d, i)) c ns ts)
  | _ => none
structure AOk (A : Al) (F : Hp) : Prop where
  inj : ∀ g g' a, A g = some a → A g' = some a → g = g'
  al : ∀ g a, A g = some a → F a ≠ none
theorem AOk.mono (h : AOk A F) (e : Ex F F') : AOk A F' := ⟨h.inj, fun g a q => by
  cases z : F a with
  | none => exact absurd z (h.al g a q)
  | some o => rw [e _ _ z]; exact fun y => nomatch y⟩
theorem AOk.new (h : AOk A F) {p : Addr} (hp : F p = none) : tagOk A none p := fun g q => h.al g p q hp
/-- what an expression sees -/
structure RE (G : Ge) (d : Nat) (A : Al) (env : Fv) (σ : L2.St) (F : Hp) : Prop where
  ok : AOk A F
  len : env.length = σ.length
  dep : ∀ g a, A g = some a → g.1 ≤ d
  slots : ∀ i t, rd d i env = some t → ∃ v, σ[i]? = some (some v) ∧ rep G A F t v
theorem RE.mono {d : Nat} {env : Fv} {σ : L2.St} (h : RE G d A env σ F) (e : Ex F F') : RE G d A env σ F' :=
  ⟨h.ok.mono e, h.len, h.dep, fun i t q => let ⟨v, a, b⟩ := h.slots i t q; ⟨v, a, b.mono e⟩⟩
/-- an exception: its class, its own dict -/
def xrep (G : Ge) (A : Al) (F : Hp) (e : Exn) (dx : Option Addr) : Prop :=
  (e.ns = [] ∧ e.ts = [] ∧ dx = none) ∨ ∃ d vs, dx = some d ∧ F d = some (.xd (e.ns.zip vs)) ∧ vs.length = e.ns.length ∧ reps G A F e.ts vs
theorem xrep.mono {e : Exn} {dx : Option Addr} (q : Ex F F') (h : xrep G A F e dx) : xrep G A F' e dx := by
  rcases h with h | ⟨d, vs, h1, h2, h3, h4⟩
  · exact .inl h
  · exact .inr ⟨d, vs, h1, q _ _ h2, h3, h4.mono q⟩
end

/-! ### what a reading gives -/
/-- E: what is wished of an exception -/
def Outg {α β : Type} (G : Ge) (A : Al) (F H : Hp) (R : Hp → α → β → Prop) (Q : β → Hp → Prop) (E : XK) : Res α → Prop
  | .ok r => ∀ b F1 H1, Grow F H F1 H1 → R F1 r b → Q b H1
  | .er e => ∀ dx F1 H1, Grow F H F1 H1 → xrep G A F1 e dx → E (.ref (G.cl e.c)) dx H1
  | .stuck => False
abbrev Out (G : Ge) (A : Al) (F H : Hp) (Q : VK) (E : XK) : Res T → Prop := Outg G A F H (rep G A) Q E
abbrev OutB (G : Ge) (A : Al) (F H : Hp) (Q : Bool → Hp → Prop) (E : XK) : Res Bool → Prop := Outg G A F H (fun _ (b c : Bool) => b = c) Q E
abbrev OutA (G : Ge) (A : Al) (F H : Hp) (Q : List V → Hp → Prop) (E : XK) : Res (List T) → Prop := Outg G A F H (reps G A) Q E
section
variable {G : Ge} {d : Nat} {W : WX} {A : Al} {F H F1 H1 : Hp} {Q : VK} {E : XK} {t : T}
theorem Out.here {v : V} (h : Out G A F H Q E (.ok t)) (e : Ex F H) (r : rep G A F t v) : Q v H := h v F H (Grow.refl e) r
theorem OutB.here {b : Bool} {Q : Bool → Hp → Prop} (h : OutB G A F H Q E (.ok b)) (e : Ex F H) : Q b H := h b F H (Grow.refl e) rfl
theorem OutA.here {ts : List T} {vs : List V} {Q : List V → Hp → Prop} (h : OutA G A F H Q E (.ok ts)) (e : Ex F H) (r : reps G A F ts vs) : Q vs H := h vs F H (Grow.refl e) r
/-- a step first -/
theorem Outg.step {α β : Type} {R : Hp → α → β → Prop} {Q : β → Hp → Prop} {m : Res α} (g : Grow F H F1 H1) (h : Outg G A F H R Q E m) : Outg G A F1 H1 R Q E m := by
  cases m with
  | ok r => exact fun v F2 H2 g2 r2 => h v F2 H2 (g.trans g2) r2
  | er e => exact fun dx F2 H2 g2 r2 => h dx F2 H2 (g.trans g2) r2
  | stuck => exact h
/-- one thing, then the rest -/
theorem Outg.bind {α β α' β' : Type} {R : Hp → α → β → Prop} {R' : Hp → α' → β' → Prop} {Q : β → Hp → Prop} {Q' : β' → Hp → Prop} {m : Res α} {k : α → Res α'} (o : Outg G A F H R' Q' E (m.bind k))
    (h : ∀ x b F1 H1, Grow F H F1 H1 → R F1 x b → Outg G A F1 H1 R' Q' E (k x) → Q b H1) : Outg G A F H R Q E m := by
  cases m with
  | ok x => exact fun b F1 H1 g r => h x b F1 H1 g r (Outg.step g o)
  | er e => exact o
  | stuck => exact o
def SE (G : Ge) (d : Nat) (W : WX) (te : TE) (p : Fv → Res T) : Prop :=
  ∀ A env σ F H Q, RE G d A env σ F → Ex F H → Out G A F H Q (WE W σ) (p env) → te σ H Q
def ST (G : Ge) (d : Nat) (W : WX) (tt : TT) (p : Fv → Res Bool) : Prop :=
  ∀ A env σ F H Q, RE G d A env σ F → Ex F H → OutB G A F H Q (WE W σ) (p env) → tt σ H Q
def SA (G : Ge) (d : Nat) (W : WX) (ta : TA) (p : Fv → Res (List T)) : Prop :=
  ∀ A env σ F H Q, RE G d A env σ F → Ex F H → OutA G A F H Q (WE W σ) (p env) → ta σ H Q
end
end Py

set_option Elab.async false
set_option linter.all false
set_option maxRecDepth 100000
set_option maxHeartbeats 4000000
namespace Py
open PySem L2 PySem.Spec PyProof.Rows Evl

/-! ### operations on trees -/
def mfit (i j : Int) : Bool := decide (i.natAbs.log2 + j.natAbs.log2 < 1000000)
theorem mfit_of {i j : Int} (a b : Nat) (ha : i.natAbs < 2 ^ a) (hb : j.natAbs < 2 ^ b) (h0 : 0 < a := by decide) (h1 : 0 < b := by decide) (h : a + b ≤ 1000000 := by decide) : mfit i j = true := decide_eq_true (wide_mul ha hb h0 h1 h)
def dfit (j : Int) : Bool := decide (j.natAbs.log2 < 9000)
theorem dfit_of {j : Int} (b : Nat) (hb : j.natAbs < 2 ^ b) (h0 : 0 < b := by decide) (h : b ≤ 9000 := by decide) : dfit j = true := decide_eq_true (Nat.lt_of_lt_of_le (PySem.Flt.log2_lt_of h0 hb) h)
def sfit (i : Int) : Bool := decide (i.natAbs < 2 ^ 64)
def lfit (n : Nat) : Bool := decide (n ≤ sizeLine)
theorem lfit_of {n : Nat} (h : n ≤ 10000000) : lfit n = true := decide_eq_true (Nat.le_trans h (by decide))
namespace T
def add : T → T → Option T
  | .int i, .int j => some (.int (i + j))
  | .str x, .str y => if lfit (x.length + y.length) = true then some (.str (x ++ y)) else none
  | .lst _ xs, .lst _ ys => if lfit (xs.length + ys.length) = true then some (.lst none (xs ++ ys)) else none
  | .tup (x :: xs), .tup ys => if lfit (xs.length + 1 + ys.length) = true then some (.tup (x :: xs ++ ys)) else none
  | _, _ => none
def sub : T → T → Option T
  | .int i, .int j => some (.int (i - j))
  | _, _ => none
def mul : T → T → Option T
  | .int i, .int j => if mfit i j = true then some (.int (i * j)) else none
  | .lst _ xs, .int k => if decide (-(2 ^ 63) ≤ k) && decide (k < 2 ^ 63) && lfit (xs.length * k.toNat) then some (.lst none (List.replicate k.toNat xs).flatten) else none
  | _, _ => none
def fdiv : T → T → Option T
  | .int i, .int j => if decide (0 < j) && dfit j then some (.int (i / j)) else none
  | _, _ => none
def mod : T → T → Option T
  | .int i, .int j => if decide (0 < j) then some (.int (i % j)) else none
  | _, _ => none
def pow : T → T → Option T
  | .int i, .int j => if decide (0 ≤ j) && decide (j ≤ 1000000) && sfit i then some (.int (i ^ j.toNat)) else none
  | _, _ => none
def shl : T → T → Option T
  | .int i, .int j => if decide (0 ≤ j) && decide (j ≤ 1000000) && sfit i then some (.int (i * 2 ^ j.toNat)) else none
  | _, _ => none
def shr : T → T → Option T
  | .int i, .int j => if decide (0 ≤ j) then some (.int (i / 2 ^ j.toNat)) else none
  | _, _ => none
def band : T → T → Option T
  | .int i, .int j => some (.int (Builtin.bitAnd i j))
  | _, _ => none
def bor : T → T → Option T
  | .int i, .int j => some (.int (Builtin.bitOr i j))
  | _, _ => none
def bxor : T → T → Option T
  | .int i, .int j => some (.int (Builtin.bitXor i j))
  | _, _ => none
def neg : T → Option T
  | .int i => some (.int (-i))
  | _ => none
def inv : T → Option T
  | .int i => some (.int (Builtin.bitNot i))
  | _ => none
/-! trees as data -/
mutual
def pd : T → Option PyData
  | .non => some .none
  | .bl b => some (.bool b)
  | .int i => some (.int i)
  | .str s => some (.str s)
  | .lst _ ts => (pds ts).map .list
  | .ro ts => (pds ts).map .list
  | .tup ts => (pds ts).map .tuple
  | .ins _ _ _ _ => none
  | .exn _ _ _ => none
def pds : List T → Option (List PyData)
  | [] => some []
  | t :: ts => match pd t, pds ts with
    | some d, some ds => some (d :: ds)
    | _, _ => none
end
def eq (x y : T) : Option T := match pd x, pd y with
  | some d, some e => if SeqAt.shaped d && SeqAt.shaped e then some (.bl (PyData.eqv d e)) else none
  | _, _ => none
def ne (x y : T) : Option T := match pd x, pd y with
  | some d, some e => if SeqAt.shaped d && SeqAt.shaped e then some (.bl (!PyData.eqv d e)) else none
  | _, _ => none
def lt : T → T → Option T
  | .int i, .int j => some (.bl (decide (i < j)))
  | .str x, .str y => some (.bl (decide (x.cps.toList < y.cps.toList)))
  | _, _ => none
def le : T → T → Option T
  | .int i, .int j => some (.bl (decide (i ≤ j)))
  | _, _ => none
def gt : T → T → Option T
  | .int i, .int j => some (.bl (decide (j < i)))
  | _, _ => none
def ge : T → T → Option T
  | .int i, .int j => some (.bl (decide (j ≤ i)))
  | _, _ => none
def nn : T → Bool
  | .non => true
  | _ => false
def isN (x y : T) : Option T := match y with
  | .non => some (.bl (nn x))
  | _ => none
def notN (x y : T) : Option T := match y with
  | .non => some (.bl (!nn x))
  | _ => none
def items : T → Option (List T)
  | .lst _ ts => some ts
  | .ro ts => some ts
  | .tup ts => some ts
  | _ => none
def fv : T → Option V
  | .non => some .non
  | .bl b => some (.bl b)
  | .int i => some (.int i)
  | .str s => some (.str s)
  | _ => none
def fvs : List T → Option (List V)
  | [] => some []
  | t :: ts => match fv t, fvs ts with
    | some v, some vs => some (v :: vs)
    | _, _ => none
def isIn (neg : Bool) (x y : T) : Option T := match fv x, items y with
  | some v, some ts => (match fvs ts with
    | some vs => some (.bl (if neg then !inV v vs else inV v vs))
    | none => none)
  | _, _ => none
def ix : T → T → Option T
  | .lst _ ts, .int i => atI ts i
  | .ro ts, .int i => atI ts i
  | .tup ts, .int i => atI ts i
  | .str z, .int i => if lfit z.length = true then (atI z.cps.toList i).map fun c => .str ⟨#[c]⟩ else none
  | _, _ => none
def tru : T → Option Bool
  | .non => some false
  | .bl b => some b
  | .int i => some (i != 0)
  | .str y => if lfit y.length = true then some ((y.length : Int) != 0) else none
  | .lst _ ts => some (!ts.isEmpty)
  | .ro ts => some (!ts.isEmpty)
  | .tup ts => some (!ts.isEmpty)
  | .ins _ _ _ _ => none
  | .exn _ _ _ => none
def boo : T → Option Bool
  | .bl b => some b
  | _ => none
end T

/-! ### operators -/
section
variable {G : Ge} {A : Al} {F H F1 H1 : Hp} {Q : VK} {E : XK} {x y t : T} {v w : V} {i j : Int}
def OpS (G : Ge) (r : R2) (f : T → T → Option T) : Prop :=
  ∀ A F H Q E x y v w, AOk A F → Ex F H → rep G A F x v → rep G A F y w → Out G A F H Q E (.of (f x y)) → r v w H Q
def UnS (G : Ge) (r : V → Hp → VK → Prop) (f : T → Option T) : Prop :=
  ∀ A F H Q E x v, AOk A F → Ex F H → rep G A F x v → Out G A F H Q E (.of (f x)) → r v H Q
theorem Out.lst {ts : List T} {vs : List V} (h : Out G A F H Q E (.ok (.lst none ts))) (ok : AOk A F) (e : Ex F H) (r : reps G A F ts vs) : ∀ p, H p = none → Q (.ref p) (upd H p (.lst vs)) := fun p hp =>
  have hf := none_of_ex e hp
  h _ _ _ (Grow.new e hp) ⟨p, vs, rfl, upd_same, ok.new hf, r.mono (Ex.new hf)⟩
theorem Out.tup {ts : List T} {vs : List V} (h : Out G A F H Q E (.ok (.tup ts))) (e : Ex F H) (r : reps G A F ts vs) : ∀ p, H p = none → Q (.ref p) (upd H p (.tup vs)) := fun p hp =>
  have hf := none_of_ex e hp
  h _ _ _ (Grow.new e hp) ⟨p, vs, rfl, SqT.of upd_same, r.mono (Ex.new hf)⟩
theorem Out.flat {v : V} (h : Out G A F H Q E (.ok t)) (e : Ex F H) (r : rep G A F t v) : Q v H := h.here e r

theorem opS_or {r r' : R2} {f g k : T → T → Option T} (h : OpS G r f) (h' : OpS G r' g) (hk : ∀ x y, k x y = (f x y).or (g x y)) : OpS G (fun x y H Q => r x y H Q ∨ r' x y H Q) k := fun A F H Q E x y v w ok e rx ry o => by
  rw [hk] at o
  cases q : f x y with
  | some t =>
    rw [q] at o
    exact .inl (h A F H Q E x y v w ok e rx ry (by rw [q]; exact o))
  | none =>
    rw [q] at o
    exact .inr (h' A F H Q E x y v w ok e rx ry o)
def OpD (X : Cx) (cl : Cl) (f : Value → Value → Sem Value) (g : T → T → Option T) : Prop := ∃ r, OpR X f r ∧ OpS ⟨X.K, cl⟩ r g
end
section
variable {X : Cx} {cl : Cl}
theorem OpD.or {f : Value → Value → Sem Value} {g g' k : T → T → Option T} (h : OpD X cl f g) (h' : OpD X cl f g') (hk : ∀ x y, k x y = (g x y).or (g' x y)) : OpD X cl f k := by
  obtain ⟨r, a, b⟩ := h
  obtain ⟨r', a', b'⟩ := h'
  exact ⟨_, a.or a', opS_or b b' hk⟩
/-- int operators -/
theorem opD_I {C : Int → Int → Prop} {g : Int → Int → V} {gt : Int → Int → T} {f : Value → Value → Sem Value} {k : T → T → Option T} (h : OpR X f (rI C g)) (hg : ∀ (G : Ge) A F i j, rep G A F (gt i j) (g i j))
    (hk : ∀ x y t, k x y = some t → ∃ i j, x = .int i ∧ y = .int j ∧ C i j ∧ t = gt i j) : OpD X cl f k := ⟨_, h, fun A F H Q E x y v w ok e rx ry o => by
  cases q : k x y with
  | none => rw [q] at o; exact o.elim
  | some t =>
    obtain ⟨i, j, rfl, rfl, c, rfl⟩ := hk x y t q
    rw [q] at o
    cases rx
    cases ry
    exact ⟨i, j, rfl, rfl, c, Out.here o e (hg _ A F i j)⟩⟩
theorem opD_I0 {g : Int → Int → V} {gt : Int → Int → T} {f : Value → Value → Sem Value} {k : T → T → Option T} (h : OpR X f (rI0 g)) (hg : ∀ (G : Ge) A F i j, rep G A F (gt i j) (g i j))
    (hk : ∀ x y t, k x y = some t → ∃ i j, x = .int i ∧ y = .int j ∧ t = gt i j) : OpD X cl f k := ⟨_, h, fun A F H Q E x y v w ok e rx ry o => by
  cases q : k x y with
  | none => rw [q] at o; exact o.elim
  | some t =>
    obtain ⟨i, j, rfl, rfl, rfl⟩ := hk x y t q
    rw [q] at o
    cases rx
    cases ry
    exact ⟨i, j, rfl, rfl, Out.here o e (hg _ A F i j)⟩⟩
/-- two ints -/
def T.i2 (f : Int → Int → Option T) : T → T → Option T
  | .int i, .int j => f i j
  | _, _ => none
theorem T.i2_some {f : Int → Int → Option T} {x y t : T} (h : T.i2 f x y = some t) : ∃ i j, x = .int i ∧ y = .int j ∧ f i j = some t := by
  cases x <;> cases y <;> first | exact ⟨_, _, rfl, rfl, h⟩ | cases h
theorem if_some {c : Prop} [Decidable c] {t u : T} (h : (if c then some t else none) = some u) : c ∧ u = t := by
  by_cases q : c
  · rw [if_pos q] at h
    cases h
    exact ⟨q, rfl⟩
  · rw [if_neg q] at h
    cases h
theorem band {a b : Bool} (h : (a && b) = true) : a = true ∧ b = true := Bool.and_eq_true_iff.mp h
theorem opD_sub : OpD X cl (binaryOp .Sub) T.sub := opD_I0 (gt := fun i j => .int (i - j)) op_sub (fun _ _ _ _ _ => rfl) fun x y t h => by
  cases x <;> cases y <;> cases h <;> exact ⟨_, _, rfl, rfl, rfl⟩
theorem opD_band : OpD X cl (binaryOp .BitAnd) T.band := opD_I0 (gt := fun i j => .int (Builtin.bitAnd i j)) op_and (fun _ _ _ _ _ => rfl) fun x y t h => by
  cases x <;> cases y <;> cases h <;> exact ⟨_, _, rfl, rfl, rfl⟩
theorem opD_bor : OpD X cl (binaryOp .BitOr) T.bor := opD_I0 (gt := fun i j => .int (Builtin.bitOr i j)) op_or (fun _ _ _ _ _ => rfl) fun x y t h => by
  cases x <;> cases y <;> cases h <;> exact ⟨_, _, rfl, rfl, rfl⟩
theorem opD_bxor : OpD X cl (binaryOp .BitXor) T.bxor := opD_I0 (gt := fun i j => .int (Builtin.bitXor i j)) op_xor (fun _ _ _ _ _ => rfl) fun x y t h => by
  cases x <;> cases y <;> cases h <;> exact ⟨_, _, rfl, rfl, rfl⟩
theorem opD_fdiv : OpD X cl (binaryOp .FloorDiv) T.fdiv := opD_I (gt := fun i j => .int (i / j)) op_fdivW (fun _ _ _ _ _ => rfl) fun x y t h => by
  obtain ⟨i, j, rfl, rfl, h⟩ := T.i2_some (f := fun i j => if decide (0 < j) && dfit j then some (.int (i / j)) else none) (x := x) (y := y) (t := t) (by cases x <;> cases y <;> exact h)
  obtain ⟨c, rfl⟩ := if_some h
  obtain ⟨c1, c2⟩ := band c
  exact ⟨_, _, rfl, rfl, ⟨of_decide_eq_true c1, of_decide_eq_true c2⟩, rfl⟩
theorem opD_mod : OpD X cl (binaryOp .Mod) T.mod := opD_I (gt := fun i j => .int (i % j)) op_mod (fun _ _ _ _ _ => rfl) fun x y t h => by
  obtain ⟨i, j, rfl, rfl, h⟩ := T.i2_some (f := fun i j => if decide (0 < j) then some (.int (i % j)) else none) (x := x) (y := y) (t := t) (by cases x <;> cases y <;> exact h)
  obtain ⟨c, rfl⟩ := if_some h
  exact ⟨_, _, rfl, rfl, of_decide_eq_true c, rfl⟩
theorem opD_pow : OpD X cl (binaryOp .Pow) T.pow := opD_I (gt := fun i j => .int (i ^ j.toNat)) op_pow (fun _ _ _ _ _ => rfl) fun x y t h => by
  obtain ⟨i, j, rfl, rfl, h⟩ := T.i2_some (f := fun i j => if decide (0 ≤ j) && decide (j ≤ 1000000) && sfit i then some (.int (i ^ j.toNat)) else none) (x := x) (y := y) (t := t) (by cases x <;> cases y <;> exact h)
  obtain ⟨c, rfl⟩ := if_some h
  obtain ⟨c, c3⟩ := band c
  obtain ⟨c1, c2⟩ := band c
  exact ⟨_, _, rfl, rfl, ⟨of_decide_eq_true c1, of_decide_eq_true c2, of_decide_eq_true c3⟩, rfl⟩
theorem opD_shl : OpD X cl (binaryOp .LShift) T.shl := opD_I (gt := fun i j => .int (i * 2 ^ j.toNat)) op_shl (fun _ _ _ _ _ => rfl) fun x y t h => by
  obtain ⟨i, j, rfl, rfl, h⟩ := T.i2_some (f := fun i j => if decide (0 ≤ j) && decide (j ≤ 1000000) && sfit i then some (.int (i * 2 ^ j.toNat)) else none) (x := x) (y := y) (t := t) (by cases x <;> cases y <;> exact h)
  obtain ⟨c, rfl⟩ := if_some h
  obtain ⟨c, c3⟩ := band c
  obtain ⟨c1, c2⟩ := band c
  exact ⟨_, _, rfl, rfl, ⟨of_decide_eq_true c1, of_decide_eq_true c2, of_decide_eq_true c3⟩, rfl⟩
theorem opD_shr : OpD X cl (binaryOp .RShift) T.shr := opD_I (gt := fun i j => .int (i / 2 ^ j.toNat)) op_shr (fun _ _ _ _ _ => rfl) fun x y t h => by
  obtain ⟨i, j, rfl, rfl, h⟩ := T.i2_some (f := fun i j => if decide (0 ≤ j) then some (.int (i / 2 ^ j.toNat)) else none) (x := x) (y := y) (t := t) (by cases x <;> cases y <;> exact h)
  obtain ⟨c, rfl⟩ := if_some h
  exact ⟨_, _, rfl, rfl, of_decide_eq_true c, rfl⟩
/-- + of ints, texts, lists, tuples -/
def T.addI : T → T → Option T
  | .int i, .int j => some (.int (i + j))
  | _, _ => none
def T.addS : T → T → Option T
  | .str x, .str y => if lfit (x.length + y.length) = true then some (.str (x ++ y)) else none
  | _, _ => none
def T.addL : T → T → Option T
  | .lst _ xs, .lst _ ys => if lfit (xs.length + ys.length) = true then some (.lst none (xs ++ ys)) else none
  | _, _ => none
def T.addT : T → T → Option T
  | .tup (x :: xs), .tup ys => if lfit (xs.length + 1 + ys.length) = true then some (.tup (x :: xs ++ ys)) else none
  | _, _ => none
theorem opD_addI : OpD X cl (binaryOp .Add) T.addI := opD_I0 (gt := fun i j => .int (i + j)) op_add (fun _ _ _ _ _ => rfl) fun x y t h => by
  cases x <;> cases y <;> cases h <;> exact ⟨_, _, rfl, rfl, rfl⟩
theorem opD_addS : OpD X cl (binaryOp .Add) T.addS := ⟨_, op_add_str, fun A F H Q E x y v w ok e rx ry o => by
  cases x <;> cases y <;> (try exact o.elim)
  rename_i a b
  cases rx
  cases ry
  by_cases c : lfit (a.length + b.length) = true
  · have o' : Out _ A F H Q E (.of (if lfit (a.length + b.length) = true then some (.str (a ++ b)) else none)) := o
    rw [if_pos c] at o'
    exact ⟨a, b, rfl, rfl, of_decide_eq_true c, Out.here o' e rfl⟩
  · have o' : Out _ A F H Q E (.of (if lfit (a.length + b.length) = true then some (.str (a ++ b)) else none)) := o
    rw [if_neg c] at o'
    exact o'.elim⟩
theorem opD_addL : OpD X cl (binaryOp .Add) T.addL := ⟨_, op_cat, fun A F H Q E x y v w ok e rx ry o => by
  cases x <;> cases y <;> (try exact o.elim)
  rename_i g1 xs g2 ys
  have o' : Out _ A F H Q E (.of (if lfit (xs.length + ys.length) = true then some (.lst none (xs ++ ys)) else none)) := o
  obtain ⟨a, vs, rfl, h1, h2, h3⟩ := rx
  obtain ⟨b, ws, rfl, k1, k2, k3⟩ := ry
  by_cases c : lfit (xs.length + ys.length) = true
  · rw [if_pos c] at o'
    refine ⟨a, b, vs, ws, rfl, rfl, e _ _ h1, e _ _ k1, ?_, Out.lst o' ok e (h3.append k3)⟩
    rw [h3.length, k3.length]
    exact of_decide_eq_true c
  · rw [if_neg c] at o'
    exact o'.elim⟩
theorem opD_addT : OpD X cl (binaryOp .Add) T.addT := ⟨_, op_catT, fun A F H Q E x y v w ok e rx ry o => by
  cases x with
  | tup xs =>
    cases xs with
    | nil => exact o.elim
    | cons x xs =>
      cases y with
      | tup ys =>
        have o' : Out _ A F H Q E (.of (if lfit (xs.length + 1 + ys.length) = true then some (.tup (x :: xs ++ ys)) else none)) := o
        obtain ⟨a, vs, rfl, h1, h3⟩ := rx
        obtain ⟨b, ws, rfl, k1, k3⟩ := ry
        have l1 := h3.length
        have l2 := k3.length
        rw [List.length_cons] at l1
        by_cases c : lfit (xs.length + 1 + ys.length) = true
        · rw [if_pos c] at o'
          refine ⟨a, b, vs, ws, rfl, rfl, ex_t e h1, ex_t e k1, (fun z => by rw [z] at l1; cases l1), (by rw [l1, l2]; exact of_decide_eq_true c), fun z => ?_, fun _ => Out.tup o' e (h3.append k3)⟩
          subst z
          cases ys with
          | cons _ _ => cases l2
          | nil => exact Out.here o' e ⟨a, vs, rfl, h1, by rw [List.append_nil]; exact h3⟩
        · rw [if_neg c] at o'
          exact o'.elim
      | _ => exact o.elim
  | _ => exact o.elim⟩
theorem opD_add : OpD X cl (binaryOp .Add) T.add := ((opD_addI.or opD_addS (k := fun x y => (T.addI x y).or (T.addS x y)) fun _ _ => rfl).or (opD_addL.or opD_addT (k := fun x y => (T.addL x y).or (T.addT x y)) fun _ _ => rfl)) fun x y => by
  cases x with
  | tup xs => cases xs <;> cases y <;> first | rfl | simp only [T.add, T.addI, T.addS, T.addL, T.addT, Option.none_or, Option.or_none]
  | _ => cases y <;> first | rfl | simp only [T.add, T.addI, T.addS, T.addL, T.addT, Option.none_or, Option.or_none]
def T.mulI : T → T → Option T
  | .int i, .int j => if mfit i j = true then some (.int (i * j)) else none
  | _, _ => none
def T.mulL : T → T → Option T
  | .lst _ xs, .int k => if decide (-(2 ^ 63) ≤ k) && decide (k < 2 ^ 63) && lfit (xs.length * k.toNat) then some (.lst none (List.replicate k.toNat xs).flatten) else none
  | _, _ => none
theorem opD_mulI : OpD X cl (binaryOp .Mult) T.mulI := opD_I (gt := fun i j => .int (i * j)) op_mulW (fun _ _ _ _ _ => rfl) fun x y t h => by
  obtain ⟨i, j, rfl, rfl, h⟩ := T.i2_some (f := fun i j => if mfit i j = true then some (.int (i * j)) else none) (x := x) (y := y) (t := t) (by cases x <;> cases y <;> exact h)
  obtain ⟨c, rfl⟩ := if_some h
  exact ⟨_, _, rfl, rfl, (show i.natAbs.log2 + j.natAbs.log2 < 1000000 from of_decide_eq_true c), rfl⟩
theorem reps.flat {G : Ge} {A : Al} {F : Hp} {ts : List T} {vs : List V} (h : reps G A F ts vs) : ∀ n : Nat, reps G A F (List.replicate n ts).flatten (List.replicate n vs).flatten
  | 0 => rfl
  | n + 1 => by
    rw [List.replicate_succ, List.replicate_succ, List.flatten_cons, List.flatten_cons]
    exact h.append (reps.flat h n)
theorem opD_mulL : OpD X cl (binaryOp .Mult) T.mulL := ⟨_, op_rep, fun A F H Q E x y v w ok e rx ry o => by
  cases x <;> cases y <;> (try exact o.elim)
  rename_i g xs k
  have o' : Out _ A F H Q E (.of (if decide (-(2 ^ 63) ≤ k) && decide (k < 2 ^ 63) && lfit (xs.length * k.toNat) then some (.lst none (List.replicate k.toNat xs).flatten) else none)) := o
  obtain ⟨a, vs, rfl, h1, h2, h3⟩ := rx
  cases ry
  by_cases c : (decide (-(2 ^ 63) ≤ k) && decide (k < 2 ^ 63) && lfit (xs.length * k.toNat)) = true
  · rw [if_pos c] at o'
    obtain ⟨c, c3⟩ := band c
    obtain ⟨c1, c2⟩ := band c
    exact ⟨a, k, vs, rfl, rfl, e _ _ h1, of_decide_eq_true c1, of_decide_eq_true c2, (by rw [h3.length]; exact of_decide_eq_true c3), Out.lst o' ok e (h3.flat _)⟩
  · rw [if_neg c] at o'
    exact o'.elim⟩
theorem opD_mul : OpD X cl (binaryOp .Mult) T.mul := opD_mulI.or opD_mulL fun x y => by
  cases x <;> cases y <;> (try rfl)
  simp only [T.mul, T.mulI, T.mulL, Option.or_none]

/-! ### comparisons -/
section
variable {G : Ge} {A : Al} {F : Hp}
mutual
theorem dp_of : ∀ {t : T} {v : V} {d : PyData}, rep G A F t v → T.pd t = some d → Dp G.K F v d
  | .non, v, d, h, e => by cases h; cases e; exact .non
  | .bl b, v, d, h, e => by cases h; cases e; exact .bl b
  | .int i, v, d, h, e => by cases h; cases e; exact .int i
  | .str s, v, d, h, e => by cases h; cases e; exact .str s
  | .lst g ts, v, d, ⟨a, vs, h1, h2, h3, h4⟩, e => by
    obtain ⟨ds, e1, e2⟩ := Option.map_eq_some_iff.mp (show (T.pds ts).map PyData.list = some d from e)
    subst e2 h1
    exact .lst (SqL.of h2) (dps_of h4 e1)
  | .ro ts, v, d, ⟨a, vs, h1, h2, h4⟩, e => by
    obtain ⟨ds, e1, e2⟩ := Option.map_eq_some_iff.mp (show (T.pds ts).map PyData.list = some d from e)
    subst e2 h1
    exact .lst h2 (dps_of h4 e1)
  | .tup ts, v, d, ⟨a, vs, h1, h2, h4⟩, e => by
    obtain ⟨ds, e1, e2⟩ := Option.map_eq_some_iff.mp (show (T.pds ts).map PyData.tuple = some d from e)
    subst e2 h1
    exact .tup h2 (dps_of h4 e1)
  | .ins _ _ _ _, v, d, h, e => by cases e
  | .exn _ _ _, v, d, h, e => by cases e
theorem dps_of : ∀ {ts : List T} {vs : List V} {ds : List PyData}, reps G A F ts vs → T.pds ts = some ds → DpAll G.K F vs ds
  | [], vs, ds, h, e => by
    have h' : vs = [] := h
    subst h'
    cases e
    exact .nil
  | t :: ts, vs, ds, ⟨v, ws, h1, h2, h3⟩, e => by
    have e' : (match T.pd t, T.pds ts with | some d, some ds => some (d :: ds) | _, _ => none) = some ds := e
    cases q : T.pd t with
    | none => rw [q] at e'; cases e'
    | some d =>
      cases q2 : T.pds ts with
      | none => rw [q, q2] at e'; cases e'
      | some ds2 =>
        rw [q, q2] at e'
        cases e'
        subst h1
        exact .cons (dp_of h2 q) (dps_of h3 q2)
end
mutual
theorem dp_mono {K : PySem.W.Frag} {F H : Hp} (e : Ex F H) : ∀ {v : V} {d : PyData}, Dp K F v d → Dp K H v d
  | _, _, .non => .non
  | _, _, .bl b => .bl b
  | _, _, .int b => .int b
  | _, _, .str b => .str b
  | _, _, .lst h k => .lst (ex_l e h) (dps_mono e k)
  | _, _, .tup h k => .tup (ex_t e h) (dps_mono e k)
theorem dps_mono {K : PySem.W.Frag} {F H : Hp} (e : Ex F H) : ∀ {vs : List V} {ds : List PyData}, DpAll K F vs ds → DpAll K H vs ds
  | _, _, .nil => .nil
  | _, _, .cons h k => .cons (dp_mono e h) (dps_mono e k)
end
end
theorem opD_eq (hu : X.A.units + 64 < cLine) : OpD X cl (compareOp .Eq) T.eq := ⟨_, op_eqD hu, fun A F H Q E x y v w ok e rx ry o => by
  unfold T.eq at o
  cases q1 : T.pd x with
  | none => rw [q1] at o; exact o.elim
  | some d =>
    cases q2 : T.pd y with
    | none => rw [q1, q2] at o; exact o.elim
    | some d2 =>
      rw [q1, q2] at o
      by_cases c : (SeqAt.shaped d && SeqAt.shaped d2) = true
      · have o' : Out _ A F H Q E (.of (if (SeqAt.shaped d && SeqAt.shaped d2) = true then some (.bl (PyData.eqv d d2)) else none)) := o
        rw [if_pos c] at o'
        exact ⟨d, d2, dp_mono e (dp_of rx q1), dp_mono e (dp_of ry q2), (band c).1, (band c).2, Out.here o' e rfl⟩
      · have o' : Out _ A F H Q E (.of (if (SeqAt.shaped d && SeqAt.shaped d2) = true then some (.bl (PyData.eqv d d2)) else none)) := o
        rw [if_neg c] at o'
        exact o'.elim⟩
theorem opD_ne (hu : X.A.units + 64 < cLine) : OpD X cl (compareOp .NotEq) T.ne := ⟨_, op_neD hu, fun A F H Q E x y v w ok e rx ry o => by
  unfold T.ne at o
  cases q1 : T.pd x with
  | none => rw [q1] at o; exact o.elim
  | some d =>
    cases q2 : T.pd y with
    | none => rw [q1, q2] at o; exact o.elim
    | some d2 =>
      rw [q1, q2] at o
      by_cases c : (SeqAt.shaped d && SeqAt.shaped d2) = true
      · have o' : Out _ A F H Q E (.of (if (SeqAt.shaped d && SeqAt.shaped d2) = true then some (.bl (!PyData.eqv d d2)) else none)) := o
        rw [if_pos c] at o'
        exact ⟨d, d2, dp_mono e (dp_of rx q1), dp_mono e (dp_of ry q2), (band c).1, (band c).2, Out.here o' e rfl⟩
      · have o' : Out _ A F H Q E (.of (if (SeqAt.shaped d && SeqAt.shaped d2) = true then some (.bl (!PyData.eqv d d2)) else none)) := o
        rw [if_neg c] at o'
        exact o'.elim⟩
theorem opD_lt : OpD X cl (compareOp .Lt) T.lt := ⟨_, op_lt.or op_lt_str, fun A F H Q E x y v w ok e rx ry o => by
  cases x <;> cases y <;> (try exact o.elim)
  · cases rx; cases ry
    exact .inl ⟨_, _, rfl, rfl, Out.here o e rfl⟩
  · cases rx; cases ry
    exact .inr ⟨_, _, rfl, rfl, Out.here o e rfl⟩⟩
theorem opD_le : OpD X cl (compareOp .LtE) T.le := opD_I0 (gt := fun i j => .bl (decide (i ≤ j))) op_le (fun _ _ _ _ _ => rfl) fun x y t h => by
  cases x <;> cases y <;> cases h <;> exact ⟨_, _, rfl, rfl, rfl⟩
theorem opD_gt : OpD X cl (compareOp .Gt) T.gt := opD_I0 (gt := fun i j => .bl (decide (j < i))) op_gt (fun _ _ _ _ _ => rfl) fun x y t h => by
  cases x <;> cases y <;> cases h <;> exact ⟨_, _, rfl, rfl, rfl⟩
theorem opD_ge : OpD X cl (compareOp .GtE) T.ge := opD_I0 (gt := fun i j => .bl (decide (j ≤ i))) op_ge (fun _ _ _ _ _ => rfl) fun x y t h => by
  cases x <;> cases y <;> cases h <;> exact ⟨_, _, rfl, rfl, rfl⟩
theorem isnon {G : Ge} {A : Al} {F : Hp} {x : T} {v : V} (h : rep G A F x v) : decide (v = .non) = T.nn x := by
  cases x with
  | non => cases h; rfl
  | bl b => cases h; rfl
  | int b => cases h; rfl
  | str b => cases h; rfl
  | lst g ts => obtain ⟨a, vs, rfl, _⟩ := h; rfl
  | tup ts => obtain ⟨a, vs, rfl, _⟩ := h; rfl
  | ro ts => obtain ⟨a, vs, rfl, _⟩ := h; rfl
  | ins g c ns ts => obtain ⟨a, dx, vs, rfl, _⟩ := h; rfl
  | exn c ns ts => obtain ⟨a, cls, dx, _, rfl, _⟩ := h; rfl
theorem opD_isN : OpD X cl (compareOp .Is) T.isN := ⟨_, op_isN, fun A F H Q E x y v w ok e rx ry o => by
  cases y <;> (try exact o.elim)
  cases ry
  have o' : Out _ A F H Q E (.ok (.bl (T.nn x))) := o
  exact ⟨rfl, by rw [isnon rx]; exact Out.here o' e rfl⟩⟩
theorem opD_notN : OpD X cl (compareOp .IsNot) T.notN := ⟨_, op_notN, fun A F H Q E x y v w ok e rx ry o => by
  cases y <;> (try exact o.elim)
  cases ry
  have o' : Out _ A F H Q E (.ok (.bl (!T.nn x))) := o
  exact ⟨rfl, by rw [isnon rx]; exact Out.here o' e rfl⟩⟩
section
variable {G : Ge} {A : Al} {F : Hp}
theorem fv_of : ∀ {t : T} {v u : V}, rep G A F t v → T.fv t = some u → v = u ∧ flatV v = true
  | .non, _, _, h, e => by cases h; cases e; exact ⟨rfl, rfl⟩
  | .bl _, _, _, h, e => by cases h; cases e; exact ⟨rfl, rfl⟩
  | .int _, _, _, h, e => by cases h; cases e; exact ⟨rfl, rfl⟩
  | .str _, _, _, h, e => by cases h; cases e; exact ⟨rfl, rfl⟩
  | .lst _ _, _, _, _, e => by cases e
  | .ro _, _, _, _, e => by cases e
  | .tup _, _, _, _, e => by cases e
  | .ins _ _ _ _, _, _, _, e => by cases e
  | .exn _ _ _, _, _, _, e => by cases e
theorem fvs_of : ∀ {ts : List T} {vs us : List V}, reps G A F ts vs → T.fvs ts = some us → vs = us ∧ vs.all flatV = true
  | [], vs, us, h, e => by
    have h' : vs = [] := h
    subst h'
    cases e
    exact ⟨rfl, rfl⟩
  | t :: ts, vs, us, ⟨v, ws, h1, h2, h3⟩, e => by
    have e' : (match T.fv t, T.fvs ts with | some d, some ds => some (d :: ds) | _, _ => none) = some us := e
    cases q : T.fv t with
    | none => rw [q] at e'; cases e'
    | some d =>
      cases q2 : T.fvs ts with
      | none => rw [q, q2] at e'; cases e'
      | some ds2 =>
        rw [q, q2] at e'
        cases e'
        subst h1
        obtain ⟨a1, a2⟩ := fv_of h2 q
        obtain ⟨b1, b2⟩ := fvs_of h3 q2
        subst a1 b1
        exact ⟨rfl, by rw [List.all_cons, a2, b2] <;> rfl⟩
theorem items_of {t : T} {v : V} {ts : List T} (h : rep G A F t v) (e : T.items t = some ts) : ∃ a vs, v = .ref a ∧ (SqL G.K F a vs ∨ SqT G.K F a vs) ∧ reps G A F ts vs := by
  cases t <;> (try cases e)
  · obtain ⟨a, vs, rfl, h2, h3, h4⟩ := h
    exact ⟨a, vs, rfl, .inl (SqL.of h2), h4⟩
  · obtain ⟨a, vs, rfl, h2, h4⟩ := h
    exact ⟨a, vs, rfl, .inr h2, h4⟩
  · obtain ⟨a, vs, rfl, h2, h4⟩ := h
    exact ⟨a, vs, rfl, .inl h2, h4⟩
end
theorem sq_mono {K : PySem.W.Frag} {F H : Hp} {a : Addr} {vs : List V} (e : Ex F H) (h : SqL K F a vs ∨ SqT K F a vs) : SqL K H a vs ∨ SqT K H a vs := h.imp (ex_l e) (ex_t e)
theorem opD_in : OpD X cl (compareOp .In) (T.isIn false) := ⟨_, op_in_seq, fun A F H Q E x y v w ok e rx ry o => by
  unfold T.isIn at o
  cases q1 : T.fv x with
  | none => rw [q1] at o; exact o.elim
  | some u =>
    cases q2 : T.items y with
    | none => rw [q1, q2] at o; exact o.elim
    | some ts =>
      cases q3 : T.fvs ts with
      | none =>
        rw [q1, q2] at o
        simp only [q3] at o
        exact o.elim
      | some us =>
        rw [q1, q2] at o
        simp only [q3] at o
        obtain ⟨rfl, f1⟩ := fv_of rx q1
        obtain ⟨a, vs, rfl, s, r⟩ := items_of ry q2
        obtain ⟨rfl, f2⟩ := fvs_of r q3
        exact ⟨a, _, rfl, sq_mono e s, f1, f2, Out.here o e rfl⟩⟩
theorem opD_notIn : OpD X cl (compareOp .NotIn) (T.isIn true) := ⟨_, op_notIn_seq, fun A F H Q E x y v w ok e rx ry o => by
  unfold T.isIn at o
  cases q1 : T.fv x with
  | none => rw [q1] at o; exact o.elim
  | some u =>
    cases q2 : T.items y with
    | none => rw [q1, q2] at o; exact o.elim
    | some ts =>
      cases q3 : T.fvs ts with
      | none =>
        rw [q1, q2] at o
        simp only [q3] at o
        exact o.elim
      | some us =>
        rw [q1, q2] at o
        simp only [q3] at o
        obtain ⟨rfl, f1⟩ := fv_of rx q1
        obtain ⟨a, vs, rfl, s, r⟩ := items_of ry q2
        obtain ⟨rfl, f2⟩ := fvs_of r q3
        exact ⟨a, _, rfl, sq_mono e s, f1, f2, Out.here o e rfl⟩⟩
/-! ### a place -/
def IxD (X : Cx) (cl : Cl) (g : T → T → Option T) : Prop := ∃ r, IxR X r ∧ OpS ⟨X.K, cl⟩ r g
theorem reps.at {G : Ge} {A : Al} {F : Hp} {ts : List T} {vs : List V} {i : Int} {t : T} (h : reps G A F ts vs) (e : atI ts i = some t) : ∃ v, atI vs i = some v ∧ rep G A F t v := by
  unfold atI at e ⊢
  rw [h.length]
  cases q : ixN ts.length i with
  | none => rw [q] at e; cases e
  | some j =>
    rw [q] at e
    obtain ⟨v, e2, r⟩ := h.get (i := j) e
    exact ⟨v, e2, r⟩
theorem ixD : IxD X cl T.ix := ⟨_, ix_seq, fun A F H Q E x y v w ok e rx ry o => by
  cases x <;> (try exact o.elim)
  · -- a text
    rename_i z
    cases y <;> (try exact o.elim)
    cases rx; cases ry
    rename_i i
    have o' : Out _ A F H Q E (.of (if lfit z.length = true then (atI z.cps.toList i).map fun c => .str ⟨#[c]⟩ else none)) := o
    by_cases c : lfit z.length = true
    · rw [if_pos c] at o'
      cases q : atI z.cps.toList i with
      | none => rw [q] at o'; exact o'.elim
      | some k =>
        rw [q] at o'
        exact .inr (.inr ⟨z, i, k, rfl, rfl, of_decide_eq_true c, q, Out.here o' e rfl⟩)
    · rw [if_neg c] at o'
      exact o'.elim
  · rename_i g ts
    cases y <;> (try exact o.elim)
    cases ry
    rename_i i
    obtain ⟨a, vs, rfl, h2, h3, h4⟩ := rx
    have o' : Out _ A F H Q E (.of (atI ts i)) := o
    cases q : atI ts i with
    | none => rw [q] at o'; exact o'.elim
    | some t =>
      rw [q] at o'
      obtain ⟨u, e2, r⟩ := h4.at q
      exact .inl ⟨a, vs, i, u, rfl, rfl, SqL.of (e _ _ h2), e2, Out.here o' e r⟩
  · rename_i ts
    cases y <;> (try exact o.elim)
    cases ry
    rename_i i
    obtain ⟨a, vs, rfl, h2, h4⟩ := rx
    have o' : Out _ A F H Q E (.of (atI ts i)) := o
    cases q : atI ts i with
    | none => rw [q] at o'; exact o'.elim
    | some t =>
      rw [q] at o'
      obtain ⟨u, e2, r⟩ := h4.at q
      exact .inr (.inl ⟨a, vs, i, u, rfl, rfl, ex_t e h2, e2, Out.here o' e r⟩)
  · rename_i ts
    cases y <;> (try exact o.elim)
    cases ry
    rename_i i
    obtain ⟨a, vs, rfl, h2, h4⟩ := rx
    have o' : Out _ A F H Q E (.of (atI ts i)) := o
    cases q : atI ts i with
    | none => rw [q] at o'; exact o'.elim
    | some t =>
      rw [q] at o'
      obtain ⟨u, e2, r⟩ := h4.at q
      exact .inl ⟨a, vs, i, u, rfl, rfl, ex_l e h2, e2, Out.here o' e r⟩⟩
/-! ### one operand -/
def UnD (X : Cx) (cl : Cl) (f : Value → Sem Value) (g : T → Option T) : Prop := ∃ r, UnR X f r ∧ UnS ⟨X.K, cl⟩ r g
theorem unD_neg : UnD X cl (unaryOp .USub) T.neg := ⟨_, un_neg, fun A F H Q E x v ok e rx o => by
  cases x <;> (try exact o.elim)
  cases rx
  exact ⟨_, rfl, Out.here o e rfl⟩⟩
theorem unD_inv : UnD X cl (unaryOp .Invert) T.inv := ⟨_, un_inv, fun A F H Q E x v ok e rx o => by
  cases x <;> (try exact o.elim)
  cases rx
  exact ⟨_, rfl, Out.here o e rfl⟩⟩
theorem tru_of {G : Ge} {A : Al} {F H : Hp} {t : T} {v : V} {b : Bool} (h : rep G A F t v) (e : Ex F H) (q : T.tru t = some b) : TruV G.K v H b := by
  cases t <;> (try cases h) <;> (try cases q)
  · rfl
  · rfl
  · rfl
  · rename_i s
    have q' : (if lfit s.length = true then some ((s.length : Int) != 0) else none) = some b := q
    by_cases c : lfit s.length = true
    · rw [if_pos c] at q'
      cases q'
      exact ⟨of_decide_eq_true c, rfl⟩
    · rw [if_neg c] at q'
      cases q'
  · rename_i g ts a h
    obtain ⟨vs, rfl, h2, h3, h4⟩ := h
    refine .inl ⟨vs, SqL.of (e _ _ h2), ?_⟩
    have l := h4.length
    cases vs <;> cases ts <;> first | rfl | cases l
  · rename_i ts a h
    obtain ⟨vs, rfl, h2, h4⟩ := h
    refine .inr (.inl ⟨vs, ex_t e h2, ?_⟩)
    have l := h4.length
    cases vs <;> cases ts <;> first | rfl | cases l
  · rename_i ts a h
    obtain ⟨vs, rfl, h2, h4⟩ := h
    refine .inl ⟨vs, ex_l e h2, ?_⟩
    have l := h4.length
    cases vs <;> cases ts <;> first | rfl | cases l
end
end Py

set_option Elab.async false
set_option linter.all false
set_option maxRecDepth 100000
set_option maxHeartbeats 4000000
namespace Py
open PySem L2 PySem.Spec PyProof.Rows Evl

/-! ### what an expression is worth, as a function of the frame -/
namespace P
abbrev Ex1 := Fv → Res T
abbrev Bx := Fv → Res Bool
abbrev Ax := Fv → Res (List T)
def var (d i : Nat) : Ex1 := fun env => .of (rd d i env)
def c (t : T) : Ex1 := fun _ => .ok t
def bin (f : T → T → Option T) (p q : Ex1) : Ex1 := fun env => (p env).bind fun x => (q env).bind fun y => .of (f x y)
def un (f : T → Option T) (p : Ex1) : Ex1 := fun env => (p env).bind fun x => .of (f x)
def tb (p : Ex1) : Bx := fun env => (p env).bind fun x => .of x.boo
def tr (p : Ex1) : Bx := fun env => (p env).bind fun x => .of x.tru
def and (p q : Bx) : Bx := fun env => (p env).bind fun b => if b = true then q env else .ok false
def or (p q : Bx) : Bx := fun env => (p env).bind fun b => if b = true then .ok true else q env
def not (p : Bx) : Bx := fun env => (p env).bind fun b => .ok (!b)
def andV (p q : Ex1) : Ex1 := fun env => (p env).bind fun x => (Res.of x.boo).bind fun b => if b = true then q env else .ok (.bl false)
def orV (p q : Ex1) : Ex1 := fun env => (p env).bind fun x => (Res.of x.boo).bind fun b => if b = true then .ok (.bl true) else q env
def notV (p : Ex1) : Ex1 := fun env => (p env).bind fun x => (Res.of x.boo).bind fun b => .ok (.bl (!b))
def ite (t : Bx) (p q : Ex1) : Ex1 := fun env => (t env).bind fun b => if b = true then p env else q env
/-- a < b < c -/
def chain (f g : T → T → Option T) (p q r : Ex1) : Ex1 := fun env => (p env).bind fun x => (q env).bind fun y => (Res.of (f x y)).bind fun z => (Res.of z.boo).bind fun b =>
  if b = true then (r env).bind fun u => .of (g y u) else .ok (.bl false)
def chainT (f g : T → T → Option T) (p q r : Ex1) : Bx := fun env => (p env).bind fun x => (q env).bind fun y => (Res.of (f x y)).bind fun z => (Res.of z.boo).bind fun b =>
  if b = true then (r env).bind fun u => (Res.of (g y u)).bind fun z => .of z.boo else .ok false
def nil : Ax := fun _ => .ok []
def cons (p : Ex1) (a : Ax) : Ax := fun env => (p env).bind fun x => (a env).bind fun xs => .ok (x :: xs)
def tup (a : Ax) : Ex1 := fun env => (a env).bind fun xs => if lfit xs.length = true then .ok (.tup xs) else .stuck
def lst (a : Ax) : Ex1 := fun env => (a env).bind fun xs => if lfit xs.length = true then .ok (.lst none xs) else .stuck
/-- a call by the values of its arguments -/
def call (f : List T → Res T) (a : Ax) : Ex1 := fun env => (a env).bind f
end P

section
variable {G : Ge} {d : Nat} {W : WX} {ta tb tc : TE} {p q r : P.Ex1} {tt tu : TT} {b b' : P.Bx} {f g : T → T → Option T} {r1 r2 : R2} {tl : TA} {a : P.Ax}
theorem se_var {i : Nat} : SE G d W (tVar i) (P.var d i) := fun A env σ F H Q R e o => by
  have o' : Out G A F H Q (WE W σ) (.of (rd d i env)) := o
  cases z : rd d i env with
  | none => rw [z] at o'; exact o'.elim
  | some t =>
    rw [z] at o'
    obtain ⟨v, h1, h2⟩ := R.slots i t z
    exact ⟨v, h1, Out.here o' e h2⟩
theorem se_c {v : V} {t : T} (h : ∀ A F, rep G A F t v) : SE G d W (tC v) (P.c t) := fun A env σ F H Q R e o => Out.here o e (h A F)
theorem Outg.boo {α β : Type} {A : Al} {F H : Hp} {E : XK} {R' : Hp → α → β → Prop} {Q' : β → Hp → Prop} {x : T} {v : V} {k : Bool → Res α} (rx : rep G A F x v) (o : Outg G A F H R' Q' E ((Res.of x.boo).bind k)) : ∃ c, v = .bl c ∧ Outg G A F H R' Q' E (k c) := by
  cases x <;> (try exact o.elim)
  cases rx
  exact ⟨_, rfl, o⟩
theorem se_op (hr : OpS G r1 f) (ha : SE G d W ta p) (hb : SE G d W tb q) : SE G d W (tOp r1 ta tb) (P.bin f p q) := fun A env σ F H Q R e o =>
  ha A env σ F H _ R e (Outg.bind o fun x v F1 H1 g1 rx o1 => hb A env σ F1 H1 _ (R.mono g1.ex) g1.sub (Outg.bind o1 fun y w F2 H2 g2 ry o2 =>
    hr A F2 H2 Q _ x y v w ((R.ok.mono g1.ex).mono g2.ex) g2.sub (rx.mono g2.ex) ry o2))
theorem se_un {r1 : V → Hp → VK → Prop} {f : T → Option T} (hr : UnS G r1 f) (ha : SE G d W ta p) : SE G d W (tUn r1 ta) (P.un f p) := fun A env σ F H Q R e o =>
  ha A env σ F H _ R e (Outg.bind o fun x v F1 H1 g1 rx o1 => hr A F1 H1 Q _ x v (R.ok.mono g1.ex) g1.sub rx o1)
theorem boo_end {A : Al} {F H : Hp} {E : XK} {Q : Bool → Hp → Prop} {x : T} {v : V} (rx : rep G A F x v) (e : Ex F H) (o : OutB G A F H Q E (.of x.boo)) : ∃ c, v = .bl c ∧ Q c H := by
  cases x <;> (try exact o.elim)
  cases rx
  exact ⟨_, rfl, OutB.here o e⟩
theorem st_tb (ha : SE G d W ta p) : ST G d W (tB ta) (P.tb p) := fun A env σ F H Q R e o =>
  ha A env σ F H _ R e (Outg.bind o fun x v F1 H1 g1 rx o1 => boo_end rx g1.sub o1)
theorem st_test (ha : SE G d W ta p) : ST G d W (tTest ta) (P.tb p) := fun A env σ F H Q R e o =>
  ha A env σ F H _ R e (Outg.bind o fun x v F1 H1 g1 rx o1 => boo_end rx g1.sub o1)
theorem st_tr (ha : SE G d W ta p) : ST G d W (fun σ H Q => ta σ H fun x H' => ∃ k, TruV G.K x H' k ∧ Q k H') (P.tr p) := fun A env σ F H Q R e o =>
  ha A env σ F H _ R e (Outg.bind o fun x v F1 H1 g1 rx o1 => by
    cases z : x.tru with
    | none => rw [z] at o1; exact o1.elim
    | some k =>
      rw [z] at o1
      exact ⟨k, tru_of rx g1.sub z, OutB.here o1 g1.sub⟩)
theorem st_and (ha : ST G d W tt b) (hb : ST G d W tu b') : ST G d W (tAnd tt tu) (P.and b b') := fun A env σ F H Q R e o =>
  ha A env σ F H _ R e (Outg.bind o fun x v F1 H1 g1 rx o1 => by
    subst rx
    cases x with
    | true => exact hb A env σ F1 H1 Q (R.mono g1.ex) g1.sub o1
    | false => exact OutB.here o1 g1.sub)
theorem st_or (ha : ST G d W tt b) (hb : ST G d W tu b') : ST G d W (tOr tt tu) (P.or b b') := fun A env σ F H Q R e o =>
  ha A env σ F H _ R e (Outg.bind o fun x v F1 H1 g1 rx o1 => by
    subst rx
    cases x with
    | false => exact hb A env σ F1 H1 Q (R.mono g1.ex) g1.sub o1
    | true => exact OutB.here o1 g1.sub)
theorem st_not (ha : ST G d W tt b) : ST G d W (tNot tt) (P.not b) := fun A env σ F H Q R e o =>
  ha A env σ F H _ R e (Outg.bind o fun x v F1 H1 g1 rx o1 => by
    subst rx
    exact OutB.here o1 g1.sub)
theorem se_andV (ha : SE G d W ta p) (hb : SE G d W tb q) : SE G d W (tAndV ta tb) (P.andV p q) := fun A env σ F H Q R e o =>
  ha A env σ F H _ R e (Outg.bind o fun x v F1 H1 g1 rx o1 => by
    obtain ⟨c, rfl, o2⟩ := Outg.boo rx o1
    refine ⟨c, rfl, ?_⟩
    cases c with
    | true => exact hb A env σ F1 H1 Q (R.mono g1.ex) g1.sub o2
    | false => exact Out.here o2 g1.sub rfl)
theorem se_orV (ha : SE G d W ta p) (hb : SE G d W tb q) : SE G d W (tOrV ta tb) (P.orV p q) := fun A env σ F H Q R e o =>
  ha A env σ F H _ R e (Outg.bind o fun x v F1 H1 g1 rx o1 => by
    obtain ⟨c, rfl, o2⟩ := Outg.boo rx o1
    refine ⟨c, rfl, ?_⟩
    cases c with
    | false => exact hb A env σ F1 H1 Q (R.mono g1.ex) g1.sub o2
    | true => exact Out.here o2 g1.sub rfl)
theorem se_notV (ha : SE G d W ta p) : SE G d W (tNotV ta) (P.notV p) := fun A env σ F H Q R e o =>
  ha A env σ F H _ R e (Outg.bind o fun x v F1 H1 g1 rx o1 => by
    obtain ⟨c, rfl, o2⟩ := Outg.boo rx o1
    exact ⟨c, rfl, Out.here o2 g1.sub rfl⟩)
theorem se_if (ht : ST G d W tt b) (ha : SE G d W ta p) (hb : SE G d W tb q) : SE G d W (tIf tt ta tb) (P.ite b p q) := fun A env σ F H Q R e o =>
  ht A env σ F H _ R e (Outg.bind o fun x v F1 H1 g1 rx o1 => by
    subst rx
    cases x with
    | true => exact ha A env σ F1 H1 Q (R.mono g1.ex) g1.sub o1
    | false => exact hb A env σ F1 H1 Q (R.mono g1.ex) g1.sub o1)
/-- an operation within a way -/
theorem OpS.bind {α β : Type} (hr : OpS G r1 f) {A : Al} {F H : Hp} {E : XK} {R' : Hp → α → β → Prop} {Q : VK} {Q' : β → Hp → Prop} {x y : T} {v w : V} {k : T → Res α} (ok : AOk A F) (e : Ex F H) (rx : rep G A F x v) (ry : rep G A F y w)
    (o : Outg G A F H R' Q' E ((Res.of (f x y)).bind k)) (h : ∀ z u F1 H1, Grow F H F1 H1 → rep G A F1 z u → Outg G A F1 H1 R' Q' E (k z) → Q u H1) : r1 v w H Q :=
  hr A F H Q E x y v w ok e rx ry (Outg.bind o h)
theorem se_chain (h1 : OpS G r1 f) (h2 : OpS G r2 g) (ha : SE G d W ta p) (hb : SE G d W tb q) (hc : SE G d W tc r) : SE G d W (tChain r1 r2 ta tb tc) (P.chain f g p q r) := fun A env σ F H Q R e o =>
  ha A env σ F H _ R e (Outg.bind o fun x v F1 H1 g1 rx o1 => hb A env σ F1 H1 _ (R.mono g1.ex) g1.sub (Outg.bind o1 fun y w F2 H2 g2 ry o2 =>
    have R2 := (R.mono g1.ex).mono g2.ex
    h1.bind R2.ok g2.sub (rx.mono g2.ex) ry o2 fun z u F3 H3 g3 rz o3 => by
      obtain ⟨c, rfl, o4⟩ := Outg.boo rz o3
      refine ⟨c, rfl, ?_⟩
      cases c with
      | false => exact Out.here o4 g3.sub rfl
      | true => exact hc A env σ F3 H3 _ (R2.mono g3.ex) g3.sub (Outg.bind o4 fun z2 u2 F4 H4 g4 rz2 o5 => h2 A F4 H4 Q _ y z2 w u2 ((R2.mono g3.ex).mono g4.ex).ok g4.sub ((ry.mono g3.ex).mono g4.ex) rz2 o5)))
theorem sa_nil : SA G d W tNil P.nil := fun A env σ F H Q R e o => OutA.here o e rfl
theorem sa_cons (ha : SE G d W ta p) (hl : SA G d W tl a) : SA G d W (tCons ta tl) (P.cons p a) := fun A env σ F H Q R e o =>
  ha A env σ F H _ R e (Outg.bind o fun x v F1 H1 g1 rx o1 => hl A env σ F1 H1 _ (R.mono g1.ex) g1.sub (Outg.bind o1 fun xs vs F2 H2 g2 rs o2 =>
    OutA.here o2 g2.sub ⟨v, vs, rfl, rx.mono g2.ex, rs⟩))
theorem se_tup (hl : SA G d W tl a) : SE G d W (tTup tl) (P.tup a) := fun A env σ F H Q R e o =>
  hl A env σ F H _ R e (Outg.bind o fun xs vs F1 H1 g1 rs o1 => by
    by_cases c : lfit xs.length = true
    · rw [if_pos c] at o1
      exact ⟨by rw [rs.length]; exact of_decide_eq_true c, Out.tup o1 g1.sub rs⟩
    · rw [if_neg c] at o1
      exact o1.elim)
theorem se_lst (hl : SA G d W tl a) : SE G d W (tLst tl) (P.lst a) := fun A env σ F H Q R e o =>
  hl A env σ F H _ R e (Outg.bind o fun xs vs F1 H1 g1 rs o1 => by
    by_cases c : lfit xs.length = true
    · rw [if_pos c] at o1
      exact ⟨by rw [rs.length]; exact of_decide_eq_true c, Out.lst o1 (R.ok.mono g1.ex) g1.sub rs⟩
    · rw [if_neg c] at o1
      exact o1.elim)
end

/-! ### calls -/
/-- a def's promise: its function of trees; n: how many parameters. The owners of changeable things stand above (their depth is less) -/
def spT (G : Ge) (n : Nat) (f : Nat → List T → Res T) : Sp := fun vs H Q E => vs.length = n ∧ ∃ d A F ts, AOk A F ∧ (∀ g a, A g = some a → g.1 < d) ∧ Ex F H ∧ reps G A F ts vs ∧ Out G A F H Q E (f d ts)
def CRs (G : Ge) (n : Nat) (r : List V → Hp → VK → Prop) (f : List T → Res T) : Prop := ∀ A F H Q E ts vs, AOk A F → Ex F H → reps G A F ts vs → Out G A F H Q E (f ts) → r vs H Q
section
variable {G : Ge} {d : Nat} {W : WX} {tl : TA} {a : P.Ax}
theorem se_callB {r : List V → Hp → VK → Prop} {f : List T → Res T} (hr : CRs G 0 r f) (hl : SA G d W tl a) : SE G d W (tCB r tl) (P.call f a) := fun A env σ F H Q R e o =>
  hl A env σ F H _ R e (Outg.bind o fun xs vs F1 H1 g1 rs o1 => hr A F1 H1 Q _ xs vs (R.ok.mono g1.ex) g1.sub rs o1)
theorem se_call {E : L2.St → XK} {n : Nat} {f : Nat → List T → Res T} (hE : E = WE W) (hn : ∀ env xs, a env = .ok xs → xs.length = n) (hl : SA G d W tl a) : SE G d W (tCallS (spT G n f) E tl) (P.call (f (d + 1)) a) := fun A env σ F H Q R e o => by
  subst hE
  have o' : Out G A F H Q (WE W σ) ((a env).bind (f (d + 1))) := o
  have hn' := hn env
  refine hl A env σ F H _ R e ?_
  cases q : a env with
  | er e => rw [q] at o'; exact o'
  | stuck => rw [q] at o'; exact o'
  | ok xs =>
    rw [q] at o'
    exact fun vs F1 H1 g1 rs => ⟨by rw [rs.length]; exact hn' xs q, d + 1, A, F1, xs, R.ok.mono g1.ex, fun g a z => Nat.lt_succ_of_le (R.dep g a z), g1.sub, rs, Outg.step g1 o'⟩
end
end Py

set_option Elab.async false
set_option linter.all false
set_option maxRecDepth 100000
set_option maxHeartbeats 4000000
namespace Py
open PySem L2 PySem.Spec PyProof.Rows Evl

/-! ### statements -/
inductive RS where
  | nx (env : Fv)
  | rt (t : T)
  | br (env : Fv)
  | ct (env : Fv)
  | er (e : Exn) (env : Fv)
  | stuck
abbrev Sx := Fv → RS
/-- an expression first; what it raises leaves the frame as it was -/
def Res.then_ {α : Type} (m : Res α) (env : Fv) (k : α → RS) : RS := match m with
  | .ok a => k a
  | .er e => .er e env
  | .stuck => .stuck
@[simp] theorem Res.then_ok {α : Type} (a : α) (env : Fv) (k : α → RS) : Res.then_ (.ok a) env k = k a := nrfl rfl
@[simp] theorem Res.then_er {α : Type} (e : Exn) (env : Fv) (k : α → RS) : Res.then_ (.er e) env k = .er e env := nrfl rfl
@[simp] theorem Res.then_stuck {α : Type} (env : Fv) (k : α → RS) : Res.then_ (.stuck) env k = .stuck := nrfl rfl
/-- the frame without its changeable things -/
def Sl.hide : Option Sl → Option Sl
  | some (.fz t) => some (.fz t)
  | _ => none
def hide (env : Fv) : Fv := env.map Sl.hide
def flat : T → Bool
  | .non => true
  | .bl _ => true
  | .int _ => true
  | .str _ => true
  | _ => false
/-- a changeable thing of a frame -/
def OwnO : Option HO → Prop
  | some (.lst _) => True
  | some (.ins _ _ _) => True
  | _ => False
theorem OwnO.ne {o : Option HO} (h : OwnO o) : o ≠ none := fun z => by
  rw [z] at h
  exact h
theorem OwnO.keep {H H1 : Hp} {a : Addr} (h : OwnO (H a)) (e : Ex H H1) : OwnO (H1 a) := by
  cases q : H a with
  | none => exact absurd q h.ne
  | some o =>
    rw [e _ _ q, ← q]
    exact h
def xflat (e : Exn) : Bool := e.ts.all flat
/-- over the whole frame: what is raised holds flat things -/
def Res.thenX {α : Type} (m : Res α) (env : Fv) (k : α → RS) : RS := match m with
  | .ok a => k a
  | .er e => if xflat e = true then .er e env else .stuck
  | .stuck => .stuck
@[simp] theorem Res.thenX_ok {α : Type} (a : α) (env : Fv) (k : α → RS) : Res.thenX (.ok a) env k = k a := nrfl rfl
@[simp] theorem Res.thenX_er {α : Type} (e : Exn) (env : Fv) (k : α → RS) : Res.thenX (.er e) env k = if xflat e = true then .er e env else .stuck := nrfl rfl
@[simp] theorem Res.thenX_stuck {α : Type} (env : Fv) (k : α → RS) : Res.thenX (.stuck) env k = .stuck := nrfl rfl
structure Rel (G : Ge) (d : Nat) (A0 : Al) (F0 H0 : Hp) (A : Al) (env : Fv) (σ : L2.St) (F H : Hp) : Prop where
  ok0 : AOk A0 F0
  dep0 : ∀ g a, A0 g = some a → g.1 < d
  len : env.length = σ.length
  agree : ∀ g, g.1 < d → A g = A0 g
  dep : ∀ g a, A g = some a → g.1 ≤ d
  inj : ∀ g g' a, A g = some a → A g' = some a → g = g'
  own : ∀ (i : Nat) (a : Addr), A (d, i) = some a → F a = none ∧ H0 a = none ∧ OwnO (H a)
  exF : Ex F0 F
  sub : Ex F H
  keep : Ex H0 H
  sep : ∀ a, F0 a = none → H0 a ≠ none → F a = none
  fz : ∀ (i : Nat) (t : T), env[i]? = some (some (.fz t)) → ∃ v, σ[i]? = some (some v) ∧ rep G A0 F t v
  ol : ∀ (i : Nat) (ts : List T), env[i]? = some (some (.ol ts)) → ∃ p vs, σ[i]? = some (some (.ref p)) ∧ A (d, i) = some p ∧ H p = some (.lst vs) ∧ reps G A0 F ts vs
  oi : ∀ (i : Nat) (c : Nat) (ns : List Str) (ts : List T), env[i]? = some (some (.oi c ns ts)) → ∃ p dx vs, σ[i]? = some (some (.ref p)) ∧ A (d, i) = some p ∧ H p = some (.ins (G.cl c) dx (ns.zip vs)) ∧ vs.length = ns.length ∧ reps G A0 F ts vs
  pin : ∀ a, G.c.pin = some (d, a) → A (d, 0) = some a
section
variable {G : Ge} {d : Nat} {A0 A A' : Al} {F0 H0 F H F1 H1 : Hp} {env : Fv} {σ : L2.St} {t : T} {v : V}
mutual
theorem rep.weak (h1 : ∀ g a, A g = some a → A' g = some a) (h2 : ∀ g a, A' g = some a → A g = some a ∨ F a = none) : ∀ {t : T} {v : V}, rep G A F t v → rep G A' F t v
  | .non, _, h => h
  | .bl _, _, h => h
  | .int _, _, h => h
  | .str _, _, h => h
  | .lst g _, _, ⟨a, vs, e1, e2, e3, e4⟩ => ⟨a, vs, e1, e2, tag_weak h1 h2 e2 e3, reps.weak h1 h2 e4⟩
  | .tup _, _, ⟨a, vs, e1, e2, e4⟩ => ⟨a, vs, e1, e2, reps.weak h1 h2 e4⟩
  | .ro _, _, ⟨a, vs, e1, e2, e4⟩ => ⟨a, vs, e1, e2, reps.weak h1 h2 e4⟩
  | .ins g _ _ _, _, ⟨a, dx, vs, e1, e2, e3, e5, e4⟩ => ⟨a, dx, vs, e1, e2, e3, tag_weak h1 h2 e2 e5, reps.weak h1 h2 e4⟩
  | .exn _ _ _, _, ⟨a, cls, dx, e1, e2, e3, e4⟩ => ⟨a, cls, dx, e1, e2, e3, match e4 with
    | .inl z => .inl z
    | .inr ⟨dd, vs, k1, k2, k3, k4⟩ => .inr ⟨dd, vs, k1, k2, k3, reps.weak h1 h2 k4⟩⟩
theorem reps.weak (h1 : ∀ g a, A g = some a → A' g = some a) (h2 : ∀ g a, A' g = some a → A g = some a ∨ F a = none) : ∀ {ts : List T} {vs : List V}, reps G A F ts vs → reps G A' F ts vs
  | [], _, h => h
  | _ :: _, _, ⟨v, ws, e1, e2, e3⟩ => ⟨v, ws, e1, rep.weak h1 h2 e2, reps.weak h1 h2 e3⟩
theorem tag_weak (h1 : ∀ g a, A g = some a → A' g = some a) (h2 : ∀ g a, A' g = some a → A g = some a ∨ F a = none) {g : Option Tag} {a : Addr} {o : HO} (e2 : F a = some o) (h : tagOk A g a) : tagOk A' g a := match g, h with
  | none, h => fun g z => (h2 g a z).elim (h g) fun y => by rw [y] at e2; cases e2
  | some g, h => h1 g a h
end
open Classical in
/-- the frozen part and the frame's own things -/
noncomputable def plus (d : Nat) (A : Al) (F H : Hp) : Hp := fun a => if ∃ i, A (d, i) = some a then H a else F a
open Classical in
/-- .. without them -/
noncomputable def minus (d : Nat) (A : Al) (F : Hp) : Hp := fun a => if ∃ i, A (d, i) = some a then none else F a
theorem plus_own {i : Nat} {a : Addr} (h : A (d, i) = some a) : plus d A F H a = H a := if_pos ⟨i, h⟩
theorem plus_not {a : Addr} (h : ∀ i, A (d, i) ≠ some a) : plus d A F H a = F a := if_neg fun ⟨i, z⟩ => h i z
theorem minus_own {i : Nat} {a : Addr} (h : A (d, i) = some a) : minus d A F a = none := if_pos ⟨i, h⟩
theorem minus_not {a : Addr} (h : ∀ i, A (d, i) ≠ some a) : minus d A F a = F a := if_neg fun ⟨i, z⟩ => h i z
section
variable (R : Rel G d A0 F0 H0 A env σ F H)
include R
theorem Rel.notOwn {a : Addr} {o : HO} (h : F a = some o) : ∀ i, A (d, i) ≠ some a := fun i z => by
  rw [(R.own i a z).1] at h
  cases h
theorem Rel.exP : Ex F (plus d A F H) := fun a o h => by
  rw [plus_not (R.notOwn h)]
  exact h
theorem Rel.subP : Ex (plus d A F H) H := fun a o h => by
  by_cases c : ∃ i, A (d, i) = some a
  · obtain ⟨i, c⟩ := c
    rw [plus_own c] at h
    exact h
  · rw [plus_not fun i z => c ⟨i, z⟩] at h
    exact R.sub a o h
theorem Rel.dep1 {g : Tag} {a : Addr} (h : A g = some a) : A0 g = some a ∨ ∃ i, g = (d, i) := by
  rcases Nat.lt_or_eq_of_le (R.dep g a h) with z | z
  · exact .inl (by rw [← R.agree g z]; exact h)
  · exact .inr ⟨g.2, by rw [← z]⟩
theorem Rel.up {t : T} {v : V} (h : rep G A0 F t v) : rep G A (plus d A F H) t v :=
  (h.weak (A' := A) (fun g a z => by rw [R.agree g (R.dep0 g a z)]; exact z) fun g a z => (R.dep1 z).imp id fun ⟨i, e⟩ => (R.own i a (by rw [← e]; exact z)).1).mono R.exP
theorem Rel.ups {t : List T} {v : List V} (h : reps G A0 F t v) : reps G A (plus d A F H) t v :=
  (h.weak (A' := A) (fun g a z => by rw [R.agree g (R.dep0 g a z)]; exact z) fun g a z => (R.dep1 z).imp id fun ⟨i, e⟩ => (R.own i a (by rw [← e]; exact z)).1).mono R.exP
/-- what an expression sees of the whole frame -/
theorem Rel.re : RE G d A env σ (plus d A F H) where
  ok := ⟨R.inj, fun g a z => by
    rcases R.dep1 z with y | ⟨i, e⟩
    · cases q : F0 a with
      | none => exact absurd q (R.ok0.al g a y)
      | some o =>
        rw [(R.exF.trans R.exP) a o q]
        exact fun y => nomatch y
    · subst e
      rw [plus_own z]
      exact (R.own i a z).2.2.ne⟩
  len := R.len
  dep := R.dep
  slots := fun i t h => by
    unfold rd at h
    split at h
    · rename_i u e
      cases h
      obtain ⟨v, h1, h2⟩ := R.fz i _ e
      exact ⟨v, h1, R.up h2⟩
    · rename_i ts e
      cases h
      obtain ⟨p, vs, h1, h2, h3, h4⟩ := R.ol i _ e
      exact ⟨_, h1, p, vs, rfl, by rw [plus_own h2]; exact h3, h2, R.ups h4⟩
    · rename_i c ns ts e
      cases h
      obtain ⟨p, dx, vs, h1, h2, h3, h5, h4⟩ := R.oi i _ _ _ e
      exact ⟨_, h1, p, dx, vs, rfl, by rw [plus_own h2]; exact h3, h5, h2, R.ups h4⟩
    · cases h
theorem hide_get {env : Fv} {i : Nat} {s : Sl} (h : (hide env)[i]? = some (some s)) : ∃ t, s = .fz t ∧ env[i]? = some (some (.fz t)) := by
  unfold hide at h
  rw [List.getElem?_map] at h
  cases q : env[i]? with
  | none => rw [q] at h; cases h
  | some o =>
    rw [q] at h
    cases o with
    | none => cases h
    | some s' =>
      cases s' with
      | fz t => cases h; exact ⟨t, rfl, rfl⟩
      | ol ts => cases h
      | oi c ns ts => cases h
/-- .. of the frozen part alone -/
theorem Rel.reH : RE G d A0 (hide env) σ F where
  ok := R.ok0.mono R.exF
  len := by
    unfold hide
    rw [List.length_map]
    exact R.len
  dep := fun g a z => Nat.le_of_lt (R.dep0 g a z)
  slots := fun i t h => by
    unfold rd at h
    split at h
    · rename_i u e
      cases h
      obtain ⟨t, e1, e2⟩ := hide_get R e
      cases e1
      exact R.fz i _ e2
    · rename_i ts e
      obtain ⟨t, e1, e2⟩ := hide_get R e
      cases e1
    · rename_i c ns ts e
      obtain ⟨t, e1, e2⟩ := hide_get R e
      cases e1
    · cases h
/-- the frozen part grows -/
theorem Rel.grow (g : Grow F H F1 H1) : Rel G d A0 F0 H0 A env σ F1 H1 where
  ok0 := R.ok0
  dep0 := R.dep0
  len := R.len
  agree := R.agree
  dep := R.dep
  inj := R.inj
  own := fun i a z => by
    obtain ⟨h1, h2, h3⟩ := R.own i a z
    exact ⟨g.sep a h1 h3.ne, h2, h3.keep g.keep⟩
  exF := R.exF.trans g.ex
  sub := g.sub
  keep := R.keep.trans g.keep
  sep := fun a h1 h2 => g.sep a (R.sep a h1 h2) fun y => h2 (none_of_ex R.keep y)
  fz := fun i t e => let ⟨v, h1, h2⟩ := R.fz i t e; ⟨v, h1, h2.mono g.ex⟩
  ol := fun i ts e => let ⟨p, vs, h1, h2, h3, h4⟩ := R.ol i ts e; ⟨p, vs, h1, h2, g.keep _ _ h3, h4.mono g.ex⟩
  oi := fun i c ns ts e => let ⟨p, dx, vs, h1, h2, h3, h5, h4⟩ := R.oi i c ns ts e; ⟨p, dx, vs, h1, h2, g.keep _ _ h3, h5, h4.mono g.ex⟩
  pin := R.pin
/-- behind an expression over the whole frame -/
theorem Rel.low (g : Grow (plus d A F H) H F1 H1) : Grow F H (minus d A F1) H1 where
  ex := fun a o h => by
    rw [minus_not (R.notOwn h)]
    exact g.ex a o (R.exP a o h)
  sub := fun a o h => by
    by_cases c : ∃ i, A (d, i) = some a
    · obtain ⟨i, c⟩ := c
      rw [minus_own c] at h
      cases h
    · rw [minus_not fun i z => c ⟨i, z⟩] at h
      exact g.sub a o h
  keep := g.keep
  sep := fun a h1 h2 => by
    by_cases c : ∃ i, A (d, i) = some a
    · obtain ⟨i, c⟩ := c
      exact minus_own c
    · have c' : ∀ i, A (d, i) ≠ some a := fun i z => c ⟨i, z⟩
      rw [minus_not c']
      exact g.sep a (by rw [plus_not c']; exact h1) h2
/-- a slot set to a frozen thing -/
theorem Rel.set {i : Nat} (h : rep G A0 F t v) (hi : i < env.length) (hp : i = 0 → G.c.pin = none) : ∃ A', Rel G d A0 F0 H0 A' (env.set i (some (.fz t))) (σ.set i (some v)) F H := by
  refine ⟨fun g => if g = (d, i) then none else A g, R.ok0, R.dep0, by rw [List.length_set, List.length_set]; exact R.len, fun g z => ?_, fun g a z => ?_, fun g g' a z y => ?_, fun j a z => ?_, R.exF, R.sub, R.keep, R.sep, fun j u e => ?_, fun j u e => ?_, fun j cc ns u e => ?_, fun a z => ?_⟩
  · show (if g = (d, i) then none else A g) = _
    rw [if_neg (fun y => by rw [y] at z; exact absurd z (Nat.lt_irrefl _))]
    exact R.agree g z
  · have z' : (if g = (d, i) then none else A g) = some a := z
    by_cases c : g = (d, i)
    · rw [if_pos c] at z'; cases z'
    · rw [if_neg c] at z'; exact R.dep g a z'
  · have z' : (if g = (d, i) then none else A g) = some a := z
    have y' : (if g' = (d, i) then none else A g') = some a := y
    by_cases c : g = (d, i)
    · rw [if_pos c] at z'; cases z'
    · by_cases c' : g' = (d, i)
      · rw [if_pos c'] at y'; cases y'
      · rw [if_neg c] at z'; rw [if_neg c'] at y'; exact R.inj g g' a z' y'
  · have z' : (if (d, j) = (d, i) then none else A (d, j)) = some a := z
    by_cases c : (d, j) = (d, i)
    · rw [if_pos c] at z'; cases z'
    · rw [if_neg c] at z'; exact R.own j a z'
  · by_cases c : i = j
    · subst c
      rw [List.getElem?_set_self hi] at e
      cases e
      exact ⟨v, List.getElem?_set_self (by rw [← R.len]; exact hi), h⟩
    · rw [List.getElem?_set_ne c] at e ⊢
      exact R.fz j u e
  · by_cases c : i = j
    · subst c
      rw [List.getElem?_set_self hi] at e
      cases e
    · rw [List.getElem?_set_ne c] at e ⊢
      obtain ⟨p, vs, h1, h2, h3⟩ := R.ol j u e
      refine ⟨p, vs, h1, ?_, h3⟩
      show (if (d, j) = (d, i) then none else A (d, j)) = some p
      rw [if_neg (fun y => c (Prod.mk.inj y).2.symm)]
      exact h2
  · by_cases c : i = j
    · subst c
      rw [List.getElem?_set_self hi] at e
      cases e
    · rw [List.getElem?_set_ne c] at e ⊢
      obtain ⟨p, dx, vs, h1, h2, h3⟩ := R.oi j cc ns u e
      refine ⟨p, dx, vs, h1, ?_, h3⟩
      show (if (d, j) = (d, i) then none else A (d, j)) = some p
      rw [if_neg (fun y => c (Prod.mk.inj y).2.symm)]
      exact h2
  · rw [if_neg (fun y => by rw [hp (Prod.mk.inj y).2.symm] at z; cases z)]
    exact R.pin a z
end
end
end Py

set_option Elab.async false
set_option linter.all false
set_option maxRecDepth 100000
set_option maxHeartbeats 4000000
namespace Py
open PySem L2 PySem.Spec PyProof.Rows Evl

/-! ### what a statement does to the frame -/
namespace S
def asg (i : Nat) (p : P.Ex1) : Sx := fun env => (p (hide env)).then_ env fun t => if i < env.length then .nx (env.set i (some (.fz t))) else .stuck
def asgX (i : Nat) (p : P.Ex1) : Sx := fun env => (p env).thenX env fun t => if flat t = true ∧ i < env.length then .nx (env.set i (some (.fz t))) else .stuck
def new (i : Nat) (p : Fv → Res (List T)) : Sx := fun env => (p (hide env)).then_ env fun ts => if i < env.length then .nx (env.set i (some (.ol ts))) else .stuck
def frz (i : Nat) (s : Sx) : Sx := fun env => match env[i]? with
  | some (some (.ol ts)) => s (env.set i (some (.fz (.lst none ts))))
  | some (some (.oi c ns ts)) => s (env.set i (some (.fz (.ins none c ns ts))))
  | _ => s env
def app (i : Nat) (p : P.Ex1) : Sx := fun env => match env[i]? with
  | some (some (.ol ts)) => (p (hide env)).then_ env fun t => if ts.length < sizeLine then .nx (env.set i (some (.ol (ts ++ [t])))) else .stuck
  | _ => .stuck
def appX (i : Nat) (p : P.Ex1) : Sx := fun env => match env[i]? with
  | some (some (.ol ts)) => (p env).thenX env fun t => if flat t = true ∧ ts.length < sizeLine then .nx (env.set i (some (.ol (ts ++ [t])))) else .stuck
  | _ => .stuck
def setX (i : Nat) (k p : P.Ex1) : Sx := fun env => match env[i]? with
  | some (some (.ol ts)) => (p env).thenX env fun t => (k env).thenX env fun j => (match j with
    | .int z => (match ixN ts.length z with
      | some m => if flat t = true then .nx (env.set i (some (.ol (ts.set m t)))) else .stuck
      | none => .stuck)
    | _ => .stuck)
  | _ => .stuck
def seq (s u : Sx) : Sx := fun env => match s env with
  | .nx env => u env
  | r => r
def skip : Sx := fun env => .nx env
def expr (p : P.Ex1) : Sx := fun env => (p env).thenX env fun _ => .nx env
def ret (p : P.Ex1) : Sx := fun env => (p (hide env)).then_ env fun t => .rt t
def retX (p : P.Ex1) : Sx := fun env => (p env).thenX env fun t => if flat t = true then .rt t else .stuck
def retN : Sx := fun _ => .rt .non
def brk : Sx := fun env => .br env
def cnt : Sx := fun env => .ct env
def ite (t : P.Bx) (s u : Sx) : Sx := fun env => (t env).thenX env fun b => if b = true then s env else u env
/-- a for: one turn an item; tg: what the target does -/
def turns (tg : T → Fv → Option Fv) (body : Sx) : List T → Sx
  | [] => fun env => .nx env
  | t :: ts => fun env => match tg t env with
    | some env1 => (match body env1 with
      | .nx env => turns tg body ts env
      | .ct env => turns tg body ts env
      | .br env => .nx env
      | r => r)
    | none => .stuck
def for_ (tg : T → Fv → Option Fv) (p : Fv → Res (List T)) (body : Sx) : Sx := fun env => (p (hide env)).then_ env fun ts => turns tg body ts env
def forX (tg : T → Fv → Option Fv) (p : Fv → Res (List T)) (body : Sx) : Sx := fun env => (p env).thenX env fun ts => if ts.all flat = true then turns tg body ts env else .stuck
/-- targets -/
def tName (i : Nat) : T → Fv → Option Fv := fun t env => if i < env.length then some (env.set i (some (.fz t))) else none
def tNames : List (T → Fv → Option Fv) → List T → Fv → Option Fv
  | [], [], env => some env
  | g :: gs, t :: ts, env => (g t env).bind fun env => tNames gs ts env
  | _, _, _ => none
def tTup (gs : List (T → Fv → Option Fv)) : T → Fv → Option Fv := fun t env => match t with
  | .tup ts => tNames gs ts env
  | _ => none
/-- a target that is more than a name -/
def unp (tg : T → Fv → Option Fv) (p : P.Ex1) : Sx := fun env => (p (hide env)).then_ env fun t => match tg t env with
  | some env => .nx env
  | none => .stuck
def while_ (t : P.Bx) (body : Sx) : Nat → Sx
  | 0 => fun _ => .stuck
  | n + 1 => fun env => (t env).thenX env fun b => if b = true then (match body env with
    | .nx env => while_ t body n env
    | .ct env => while_ t body n env
    | .br env => .nx env
    | r => r) else .nx env
end S

def OutS (G : Ge) (d : Nat) (A0 : Al) (F0 H0 : Hp) (W : WX) (D : Ends) : RS → Prop
  | .nx env => ∀ A σ F H, Rel G d A0 F0 H0 A env σ F H → D.nx σ H
  | .br env => ∀ A σ F H, Rel G d A0 F0 H0 A env σ F H → D.bk σ H
  | .ct env => ∀ A σ F H, Rel G d A0 F0 H0 A env σ F H → D.ct σ H
  | .rt t => ∀ v F H, Grow F0 H0 F H → rep G A0 F t v → D.rt v H
  | .er e env => ∀ A σ F H dx, Rel G d A0 F0 H0 A env σ F H → xrep G A0 F e dx → W (.ref (G.cl e.c)) dx σ H
  | .stuck => False
def SS (G : Ge) (d : Nat) (W : WX) (ts : TS) (s : Sx) : Prop :=
  ∀ A0 F0 H0 A env σ F H D, Rel G d A0 F0 H0 A env σ F H → OutS G d A0 F0 H0 W D (s env) → ts D σ H

section
variable {G : Ge} {d : Nat} {W : WX} {A0 A : Al} {F0 H0 F H : Hp} {env : Fv} {σ : L2.St} {D : Ends}
variable {te tk : TE} {p q : P.Ex1} {tt : TT} {b : P.Bx} {ta : TA} {a : P.Ax} {t u : TS} {s s' : Sx} {i : Nat}
theorem Rel.growF (R : Rel G d A0 F0 H0 A env σ F H) : Grow F0 H0 F H := ⟨R.exF, R.sub, R.keep, R.sep⟩
/-- an expression of the frozen part, within a statement -/
theorem Rel.run (R : Rel G d A0 F0 H0 A env σ F H) (he : SE G d W te p) {k : T → RS} {Q : VK} (o : OutS G d A0 F0 H0 W D ((p (hide env)).then_ env k))
    (h : ∀ r v F1 H1, Rel G d A0 F0 H0 A env σ F1 H1 → rep G A0 F1 r v → OutS G d A0 F0 H0 W D (k r) → Q v H1) : te σ H Q := by
  refine he A0 (hide env) σ F H Q R.reH R.sub ?_
  cases z : p (hide env) with
  | ok r => rw [z] at o; exact fun v F1 H1 g r => h _ v F1 H1 (R.grow g) r o
  | er e => rw [z] at o; exact fun dx F1 H1 g x => o A σ F1 H1 dx (R.grow g) x
  | stuck => rw [z] at o; exact o
theorem Rel.runA (R : Rel G d A0 F0 H0 A env σ F H) (he : SA G d W ta a) {k : List T → RS} {Q : List V → Hp → Prop} (o : OutS G d A0 F0 H0 W D ((a (hide env)).then_ env k))
    (h : ∀ r v F1 H1, Rel G d A0 F0 H0 A env σ F1 H1 → reps G A0 F1 r v → OutS G d A0 F0 H0 W D (k r) → Q v H1) : ta σ H Q := by
  refine he A0 (hide env) σ F H Q R.reH R.sub ?_
  cases z : a (hide env) with
  | ok r => rw [z] at o; exact fun v F1 H1 g r => h _ v F1 H1 (R.grow g) r o
  | er e => rw [z] at o; exact fun dx F1 H1 g x => o A σ F1 H1 dx (R.grow g) x
  | stuck => rw [z] at o; exact o
theorem rep.flat {A A' : Al} {F F' : Hp} {t : T} {v : V} (f : flat t = true) (h : rep G A F t v) : rep G A' F' t v := by
  cases t <;> first | exact h | cases f
theorem reps.flatAll {A A' : Al} {F F' : Hp} : ∀ {ts : List T} {vs : List V}, ts.all Py.flat = true → reps G A F ts vs → reps G A' F' ts vs
  | [], _, _, h => h
  | t :: ts, _, f, ⟨v, ws, e1, e2, e3⟩ => by
    rw [List.all_cons] at f
    obtain ⟨f1, f2⟩ := band f
    exact ⟨v, ws, e1, rep.flat f1 e2, reps.flatAll f2 e3⟩
/-- what an expression of the whole frame hands on -/
theorem Rel.outX {α β : Type} {Rp : Hp → α → β → Prop} (R : Rel G d A0 F0 H0 A env σ F H) {m : Res α} {k : α → RS} {Q : β → Hp → Prop} (o : OutS G d A0 F0 H0 W D (m.thenX env k))
    (h : ∀ r v F1 H1, Rel G d A0 F0 H0 A env σ (minus d A F1) H1 → Rp F1 r v → OutS G d A0 F0 H0 W D (k r) → Q v H1) : Outg G A (plus d A F H) H Rp Q (WE W σ) m := by
  cases m with
  | ok r => exact fun v F1 H1 g r => h _ v _ H1 (R.grow (R.low g)) r o
  | er e =>
    by_cases fe : xflat e = true
    · have o' : OutS G d A0 F0 H0 W D (if xflat e = true then .er e env else .stuck) := o
      rw [if_pos fe] at o'
      refine fun dx F1 H1 g x => o' A σ _ H1 dx (R.grow (R.low g)) ?_
      rcases x with x | ⟨dd, vs, h1, h2, h3, h4⟩
      · exact .inl x
      · refine .inr ⟨dd, vs, h1, ?_, h3, reps.flatAll fe h4⟩
        rw [minus_not fun i y => ?_]
        · exact h2
        · -- an exception's dict is none of the frame's own things
          obtain ⟨y1, y2, y3⟩ := R.own i dd y
          cases y4 : H dd with
          | none => exact y3.ne y4
          | some o4 =>
            have y5 : plus d A F H dd = some o4 := by rw [plus_own y]; exact y4
            have y6 := g.ex _ _ y5
            rw [h2] at y6
            cases y6
            rw [y4] at y3
            exact y3
    · have o' : OutS G d A0 F0 H0 W D (if xflat e = true then .er e env else .stuck) := o
      rw [if_neg fe] at o'
      exact o'.elim
  | stuck => exact o
theorem Rel.runX (R : Rel G d A0 F0 H0 A env σ F H) (he : SE G d W te p) {k : T → RS} {Q : VK} (o : OutS G d A0 F0 H0 W D ((p env).thenX env k))
    (h : ∀ r v F1 H1, Rel G d A0 F0 H0 A env σ F1 H1 → (flat r = true → rep G A0 F1 r v) → OutS G d A0 F0 H0 W D (k r) → Q v H1) : te σ H Q :=
  he A env σ _ H Q R.re R.subP (R.outX o fun r v F1 H1 R1 r1 o1 => h r v _ H1 R1 (fun f => rep.flat f r1) o1)
theorem Rel.runXA (R : Rel G d A0 F0 H0 A env σ F H) (he : SA G d W ta a) {k : List T → RS} {Q : List V → Hp → Prop} (o : OutS G d A0 F0 H0 W D ((a env).thenX env k))
    (h : ∀ r v F1 H1, Rel G d A0 F0 H0 A env σ F1 H1 → (r.all flat = true → reps G A0 F1 r v) → OutS G d A0 F0 H0 W D (k r) → Q v H1) : ta σ H Q :=
  he A env σ _ H Q R.re R.subP (R.outX o fun r v F1 H1 R1 r1 o1 => h r v _ H1 R1 (fun f => reps.flatAll f r1) o1)
theorem Rel.runT (R : Rel G d A0 F0 H0 A env σ F H) (ht : ST G d W tt b) {k : Bool → RS} {Q : Bool → Hp → Prop} (o : OutS G d A0 F0 H0 W D ((b env).thenX env k))
    (h : ∀ r F1 H1, Rel G d A0 F0 H0 A env σ F1 H1 → OutS G d A0 F0 H0 W D (k r) → Q r H1) : tt σ H Q :=
  ht A env σ _ H Q R.re R.subP (R.outX o fun r v F1 H1 R1 r1 o1 => by
    subst r1
    exact h _ _ H1 R1 o1)

/-! ### the rules -/
theorem Rel.lt (R : Rel G d A0 F0 H0 A env σ F H) {i : Nat} (hi : i < env.length) : i < σ.length := by rw [← R.len]; exact hi
theorem OutS.of_if {c : Prop} [Decidable c] {r : RS} (o : OutS G d A0 F0 H0 W D (if c then r else .stuck)) : c ∧ OutS G d A0 F0 H0 W D r := by
  by_cases h : c
  · rw [if_pos h] at o
    exact ⟨h, o⟩
  · rw [if_neg h] at o
    exact o.elim
theorem ss_asg (he : SE G d W te p) (hp : i = 0 → G.c.pin = none) : SS G d W (tAsg te (gName i)) (S.asg i p) := fun A0 F0 H0 A env σ F H D R o =>
  R.run he o fun r v F1 H1 R1 r1 o1 => by
    obtain ⟨hi, o2⟩ := OutS.of_if o1
    obtain ⟨A', R2⟩ := R1.set r1 hi hp
    exact o2 A' _ F1 H1 R2
theorem ss_asgX (he : SE G d W te p) (hp : i = 0 → G.c.pin = none) : SS G d W (tAsg te (gName i)) (S.asgX i p) := fun A0 F0 H0 A env σ F H D R o =>
  R.runX he o fun r v F1 H1 R1 r1 o1 => by
    obtain ⟨⟨hf, hi⟩, o2⟩ := OutS.of_if o1
    obtain ⟨A', R2⟩ := R1.set (r1 hf) hi hp
    exact o2 A' _ F1 H1 R2
theorem ss_ret (he : SE G d W te p) : SS G d W (tRet te) (S.ret p) := fun A0 F0 H0 A env σ F H D R o =>
  R.run he o fun r v F1 H1 R1 r1 o1 => o1 v F1 H1 R1.growF r1
theorem ss_retX (he : SE G d W te p) : SS G d W (tRet te) (S.retX p) := fun A0 F0 H0 A env σ F H D R o =>
  R.runX he o fun r v F1 H1 R1 r1 o1 => by
    obtain ⟨hf, o2⟩ := OutS.of_if o1
    exact o2 v F1 H1 R1.growF (r1 hf)
theorem ss_retN : SS G d W tRetN S.retN := fun A0 F0 H0 A env σ F H D R o => o .non F H R.growF rfl
theorem ss_brk : SS G d W tBreak S.brk := fun A0 F0 H0 A env σ F H D R o => o A σ F H R
theorem ss_cnt : SS G d W tCont S.cnt := fun A0 F0 H0 A env σ F H D R o => o A σ F H R
theorem ss_skip : SS G d W tNext S.skip := fun A0 F0 H0 A env σ F H D R o => o A σ F H R
theorem ss_expr (he : SE G d W te p) : SS G d W (tDrop te) (S.expr p) := fun A0 F0 H0 A env σ F H D R o =>
  R.runX he o fun r v F1 H1 R1 r1 o1 => o1 A σ F1 H1 R1
theorem ss_if (ht : ST G d W tt b) (h1 : SS G d W t s) (h2 : SS G d W u s') : SS G d W (tIfS tt t u) (S.ite b s s') := fun A0 F0 H0 A env σ F H D R o =>
  R.runT ht o fun r F1 H1 R1 o1 => by
    cases r with
    | true =>
      show t D σ H1
      exact h1 A0 F0 H0 A env σ F1 H1 D R1 o1
    | false =>
      show u D σ H1
      exact h2 A0 F0 H0 A env σ F1 H1 D R1 o1
/-- what follows is asked behind -/
theorem OutS.next {D' : Ends} {m : RS} (h : match m with | .nx env => (∀ A σ F H, Rel G d A0 F0 H0 A env σ F H → D'.nx σ H) | r => OutS G d A0 F0 H0 W D r) (hb : D'.bk = D.bk) (hc : D'.ct = D.ct) (hr : D'.rt = D.rt) : OutS G d A0 F0 H0 W D' m := by
  cases m with
  | nx env => exact h
  | rt t => exact fun v F H g r => by rw [hr]; exact h v F H g r
  | br env => exact fun A σ F H R => by rw [hb]; exact h A σ F H R
  | ct env => exact fun A σ F H R => by rw [hc]; exact h A σ F H R
  | er e env => exact h
  | stuck => exact h
theorem ss_seq (h1 : SS G d W t s) (h2 : SS G d W u s') : SS G d W (tSeq t u) (S.seq s s') := fun A0 F0 H0 A env σ F H D R o =>
  h1 A0 F0 H0 A env σ F H _ R (by
    have o' : OutS G d A0 F0 H0 W D (match s env with | .nx env => s' env | r => r) := o
    refine OutS.next (D := D) ?_ rfl rfl rfl
    cases z : s env with
    | nx env1 => rw [z] at o'; exact fun A σ F H R => h2 A0 F0 H0 A env1 σ F H D R o'
    | rt t => rw [z] at o'; exact o'
    | br env => rw [z] at o'; exact o'
    | ct env => rw [z] at o'; exact o'
    | er e env => rw [z] at o'; exact o'
    | stuck => rw [z] at o'; exact o')
theorem ss_never : SS G d W tNever (fun _ => .stuck) := fun A0 F0 H0 A env σ F H D R o => o.elim
end
end Py

set_option Elab.async false
set_option linter.all false
set_option maxRecDepth 100000
set_option maxHeartbeats 4000000
namespace Py
open PySem L2 PySem.Spec PyProof.Rows Evl

section
variable {G : Ge} {d : Nat} {W : WX} {A0 A : Al} {F0 H0 F H F1 H1 : Hp} {env : Fv} {σ : L2.St} {D : Ends}
variable {te tk : TE} {p q : P.Ex1} {tt : TT} {b : P.Bx} {ta : TA} {a : P.Ax} {t u : TS} {s s' : Sx} {i : Nat}
/-! ### a new list of the frame's own -/
def SN (G : Ge) (d : Nat) (W : WX) (te : TE) (p : Fv → Res (List T)) : Prop :=
  ∀ A env σ F H (Q : VK), RE G d A env σ F → Ex F H → Outg G A F H (fun F1 (ts : List T) (b : Addr × List V) => reps G A F1 ts b.2 ∧ F1 b.1 = none) (fun b H1 => H b.1 = none → H1 b.1 = some (.lst b.2) → Q (.ref b.1) H1) (WE W σ) (p env) → te σ H Q
def lfits (a : P.Ax) : P.Ax := fun env => (a env).bind fun xs => if lfit xs.length = true then .ok xs else .stuck
theorem sn_lst (hl : SA G d W ta a) : SN G d W (tLst ta) (lfits a) := fun A env σ F H Q R e o =>
  hl A env σ F H _ R e (by
    have o' : Outg G A F H (fun F1 (ts : List T) (b : Addr × List V) => reps G A F1 ts b.2 ∧ F1 b.1 = none) (fun b H1 => H b.1 = none → H1 b.1 = some (.lst b.2) → Q (.ref b.1) H1) (WE W σ) ((a env).bind fun xs => if lfit xs.length = true then .ok xs else .stuck) := o
    cases z : a env with
    | er e => rw [z] at o'; exact o'
    | stuck => rw [z] at o'; exact o'
    | ok xs =>
      rw [z] at o'
      intro vs F1 H1 g1 rs
      have o1 : Outg G A F H (fun F1 (ts : List T) (b : Addr × List V) => reps G A F1 ts b.2 ∧ F1 b.1 = none) (fun b H1 => H b.1 = none → H1 b.1 = some (.lst b.2) → Q (.ref b.1) H1) (WE W σ) (if lfit xs.length = true then .ok xs else .stuck) := o'
      by_cases c : lfit xs.length = true
      · rw [if_pos c] at o1
        refine ⟨by rw [rs.length]; exact of_decide_eq_true c, fun pa hp => ?_⟩
        exact o1 (pa, vs) F1 (upd H1 pa (.lst vs)) (g1.trans (Grow.junk g1.sub hp)) ⟨rs, none_of_ex g1.sub hp⟩ (none_of_ex g1.keep hp) upd_same
      · rw [if_neg c] at o1
        exact o1.elim)
/-- .. frozen at once -/
theorem SN.se {pn : Fv → Res (List T)} (h : SN G d W te pn) : SE G d W te (fun env => (pn env).bind fun ts => .ok (.lst none ts)) := fun A env σ F H Q R e o => by
  refine h A env σ F H Q R e ?_
  cases z : pn env with
  | er e => simp only [z] at o; exact o
  | stuck => simp only [z] at o; exact o
  | ok ts =>
    simp only [z] at o
    intro b F1 H1 g1 rb hp hH
    obtain ⟨rs, hF⟩ := rb
    have hF0 : F b.1 = none := none_of_ex e hp
    refine o (.ref b.1) (upd F1 b.1 (.lst b.2)) H1 ⟨g1.ex.trans (Ex.new hF), fun a x y => ?_, g1.keep, fun a h1 h2 => ?_⟩ ⟨b.1, b.2, rfl, upd_same, R.ok.new hF0, rs.mono (Ex.new hF)⟩
    · by_cases c : a = b.1
      · subst c
        rw [upd_same] at y
        rw [hH]
        exact y
      · rw [upd_ne c] at y
        exact g1.sub a x y
    · rw [upd_ne (fun c => h2 (by rw [c]; exact hp))]
      exact g1.sep a h1 h2
/-- a slot set to a new list -/
theorem Rel.setNew {ts : List T} {vs : List V} {pa : Addr} (R : Rel G d A0 F0 H0 A env σ F H) (hH : H pa = some (.lst vs)) (hF : F pa = none) (h0 : H0 pa = none) (hne : ∀ g, A g ≠ some pa) (h : reps G A0 F ts vs) (hi : i < env.length) (hp : i = 0 → G.c.pin = none) :
    ∃ A', Rel G d A0 F0 H0 A' (env.set i (some (.ol ts))) (σ.set i (some (.ref pa))) F H := by
  refine ⟨fun g => if g = (d, i) then some pa else A g, R.ok0, R.dep0, by rw [List.length_set, List.length_set]; exact R.len, fun g z => ?_, fun g a z => ?_, fun g g' a z y => ?_, fun j a z => ?_, R.exF, R.sub, R.keep, R.sep, fun j u e => ?_, fun j u e => ?_, fun j cc ns u e => ?_, fun b z => ?_⟩
  · show (if g = (d, i) then some pa else A g) = _
    rw [if_neg (fun y => by rw [y] at z; exact absurd z (Nat.lt_irrefl _))]
    exact R.agree g z
  · have z' : (if g = (d, i) then some pa else A g) = some a := z
    by_cases c : g = (d, i)
    · rw [c]; exact Nat.le_refl _
    · rw [if_neg c] at z'; exact R.dep g a z'
  · have z' : (if g = (d, i) then some pa else A g) = some a := z
    have y' : (if g' = (d, i) then some pa else A g') = some a := y
    by_cases c : g = (d, i)
    · by_cases c' : g' = (d, i)
      · rw [c, c']
      · rw [if_pos c] at z'; rw [if_neg c'] at y'
        cases z'
        exact absurd y' (hne g')
    · by_cases c' : g' = (d, i)
      · rw [if_neg c] at z'; rw [if_pos c'] at y'
        cases y'
        exact absurd z' (hne g)
      · rw [if_neg c] at z'; rw [if_neg c'] at y'; exact R.inj g g' a z' y'
  · have z' : (if (d, j) = (d, i) then some pa else A (d, j)) = some a := z
    by_cases c : (d, j) = (d, i)
    · rw [if_pos c] at z'
      cases z'
      exact ⟨hF, h0, by rw [hH]; trivial⟩
    · rw [if_neg c] at z'
      exact R.own j a z'
  · by_cases c : i = j
    · subst c
      rw [List.getElem?_set_self hi] at e
      cases e
    · rw [List.getElem?_set_ne c] at e ⊢
      exact R.fz j u e
  · by_cases c : i = j
    · subst c
      rw [List.getElem?_set_self hi] at e
      cases e
      exact ⟨pa, vs, List.getElem?_set_self (R.lt hi), if_pos rfl, hH, h⟩
    · rw [List.getElem?_set_ne c] at e ⊢
      obtain ⟨p, vs, h1, h2, h3, h4⟩ := R.ol j u e
      refine ⟨p, vs, h1, ?_, h3, h4⟩
      show (if (d, j) = (d, i) then some pa else A (d, j)) = some p
      rw [if_neg (fun y => c (Prod.mk.inj y).2.symm)]
      exact h2
  · by_cases c : i = j
    · subst c
      rw [List.getElem?_set_self hi] at e
      cases e
    · rw [List.getElem?_set_ne c] at e ⊢
      obtain ⟨p, dx, vs, h1, h2, h3, h4⟩ := R.oi j cc ns u e
      refine ⟨p, dx, vs, h1, ?_, h3, h4⟩
      show (if (d, j) = (d, i) then some pa else A (d, j)) = some p
      rw [if_neg (fun y => c (Prod.mk.inj y).2.symm)]
      exact h2
  · rw [if_neg (fun y => by rw [hp (Prod.mk.inj y).2.symm] at z; cases z)]
    exact R.pin b z
theorem Rel.noneA {pa : Addr} (R : Rel G d A0 F0 H0 A env σ F H) (hp : H pa = none) : ∀ g, A g ≠ some pa := fun g z => by
  rcases R.dep1 z with y | ⟨j, e⟩
  · exact R.ok0.al g pa y (none_of_ex (R.exF.trans R.sub) hp)
  · subst e
    exact (R.own j pa z).2.2.ne hp
theorem ss_new {pn : Fv → Res (List T)} (he : SN G d W te pn) (hq : i = 0 → G.c.pin = none) : SS G d W (tAsg te (gName i)) (S.new i pn) := fun A0 F0 H0 A env σ F H D R o => by
  refine he A0 (hide env) σ F H _ R.reH R.sub ?_
  have o' : OutS G d A0 F0 H0 W D ((pn (hide env)).then_ env fun ts => if i < env.length then .nx (env.set i (some (.ol ts))) else .stuck) := o
  cases z : pn (hide env) with
  | ok r =>
    rw [z] at o'
    intro b F1 H1 g rb hp hH
    obtain ⟨hi, o2⟩ := OutS.of_if o'
    obtain ⟨A', R2⟩ := (R.grow g).setNew hH rb.2 (none_of_ex R.keep hp) (R.noneA hp) rb.1 hi hq
    exact o2 A' _ F1 _ R2
  | er e => rw [z] at o'; exact fun dx F1 H1 g x => o' A σ F1 H1 dx (R.grow g) x
  | stuck => rw [z] at o'; exact o'
/-! ### .. is frozen -/
theorem Rel.frz1 {p : Addr} {x : HO} {t : T} (R : Rel G d A0 F0 H0 A env σ F H) (hi : i < env.length) (hs : σ[i]? = some (some (.ref p))) (hA : A (d, i) = some p) (hx : H p = some x) (hp : i = 0 → G.c.pin = none)
    (ht : ∀ F', Ex F F' → F' p = some x → (∀ g, A0 g ≠ some p) → rep G A0 F' t (.ref p)) : ∃ A' F', Rel G d A0 F0 H0 A' (env.set i (some (.fz t))) σ F' H := by
  obtain ⟨hF, hH0, hO⟩ := R.own i p hA
  have hG : Ex F (upd F p x) := Ex.new hF
  have n0 : ∀ g, A0 g ≠ some p := fun g z => by
    have z2 : A g = some p := by rw [R.agree g (R.dep0 g p z)]; exact z
    have z3 := R.inj g (d, i) p z2 hA
    have z4 := R.dep0 g p z
    rw [z3] at z4
    exact absurd z4 (Nat.lt_irrefl _)
  refine ⟨fun g => if g = (d, i) then none else A g, upd F p x, R.ok0, R.dep0, by rw [List.length_set]; exact R.len, fun g z => ?_, fun g a z => ?_, fun g g' a z y => ?_, fun j a z => ?_, R.exF.trans hG, fun a o y => ?_, R.keep, fun a h1 h2 => ?_, fun j u e => ?_, fun j u e => ?_, fun j cc ns u e => ?_, fun b z => ?_⟩
  · show (if g = (d, i) then none else A g) = _
    rw [if_neg (fun y => by rw [y] at z; exact absurd z (Nat.lt_irrefl _))]
    exact R.agree g z
  · have z' : (if g = (d, i) then none else A g) = some a := z
    by_cases c : g = (d, i)
    · rw [if_pos c] at z'; cases z'
    · rw [if_neg c] at z'; exact R.dep g a z'
  · have z' : (if g = (d, i) then none else A g) = some a := z
    have y' : (if g' = (d, i) then none else A g') = some a := y
    by_cases c : g = (d, i)
    · rw [if_pos c] at z'; cases z'
    · by_cases c' : g' = (d, i)
      · rw [if_pos c'] at y'; cases y'
      · rw [if_neg c] at z'; rw [if_neg c'] at y'; exact R.inj g g' a z' y'
  · have z' : (if (d, j) = (d, i) then none else A (d, j)) = some a := z
    by_cases c : (d, j) = (d, i)
    · rw [if_pos c] at z'; cases z'
    · rw [if_neg c] at z'
      obtain ⟨h1, h2, h3⟩ := R.own j a z'
      refine ⟨?_, h2, h3⟩
      rw [upd_ne (fun y => c (by rw [y] at z'; exact R.inj _ _ _ z' hA))]
      exact h1
  · by_cases c : a = p
    · subst c
      rw [upd_same] at y
      rw [hx]
      exact y
    · rw [upd_ne c] at y
      exact R.sub a o y
  · by_cases c : a = p
    · subst c
      exact absurd hH0 h2
    · rw [upd_ne c]
      exact R.sep a h1 h2
  · by_cases c : i = j
    · subst c
      rw [List.getElem?_set_self hi] at e
      cases e
      exact ⟨_, hs, ht _ hG upd_same n0⟩
    · rw [List.getElem?_set_ne c] at e
      obtain ⟨v, h1, h2⟩ := R.fz j u e
      exact ⟨v, h1, h2.mono hG⟩
  · by_cases c : i = j
    · subst c
      rw [List.getElem?_set_self hi] at e
      cases e
    · rw [List.getElem?_set_ne c] at e
      obtain ⟨p2, vs, h1, h2, h3, h4⟩ := R.ol j u e
      refine ⟨p2, vs, h1, ?_, h3, h4.mono hG⟩
      show (if (d, j) = (d, i) then none else A (d, j)) = some p2
      rw [if_neg (fun y => c (Prod.mk.inj y).2.symm)]
      exact h2
  · by_cases c : i = j
    · subst c
      rw [List.getElem?_set_self hi] at e
      cases e
    · rw [List.getElem?_set_ne c] at e
      obtain ⟨p2, dx, vs, h1, h2, h3, h5, h4⟩ := R.oi j cc ns u e
      refine ⟨p2, dx, vs, h1, ?_, h3, h5, h4.mono hG⟩
      show (if (d, j) = (d, i) then none else A (d, j)) = some p2
      rw [if_neg (fun y => c (Prod.mk.inj y).2.symm)]
      exact h2
  · rw [if_neg (fun y => by rw [hp (Prod.mk.inj y).2.symm] at z; cases z)]
    exact R.pin b z
theorem get_lt {env : Fv} {i : Nat} {x : Option Sl} (h : env[i]? = some x) : i < env.length := (List.getElem?_eq_some_iff.mp h).1
theorem ss_frz (h : SS G d W t s) (hp : i = 0 → G.c.pin = none) : SS G d W t (S.frz i s) := fun A0 F0 H0 A env σ F H D R o => by
  unfold S.frz at o
  split at o
  · rename_i ts e
    obtain ⟨p, vs, h1, h2, h3, h4⟩ := R.ol i ts e
    obtain ⟨A', F', R'⟩ := R.frz1 (t := .lst none ts) (get_lt e) h1 h2 h3 hp fun F' eF hF n0 => ⟨p, vs, rfl, hF, n0, h4.mono eF⟩
    exact h A0 F0 H0 A' _ σ F' H D R' o
  · rename_i c ns ts e
    obtain ⟨p, dx, vs, h1, h2, h3, h5, h4⟩ := R.oi i c ns ts e
    obtain ⟨A', F', R'⟩ := R.frz1 (t := .ins none c ns ts) (get_lt e) h1 h2 h3 hp fun F' eF hF n0 => ⟨p, dx, vs, rfl, hF, h5, n0, h4.mono eF⟩
    exact h A0 F0 H0 A' _ σ F' H D R' o
  · exact h A0 F0 H0 A env σ F H D R o
/-! ### .. is changed -/
theorem Rel.wr {p : Addr} {ts us : List T} {ws : List V} (R : Rel G d A0 F0 H0 A env σ F H) (e : env[i]? = some (some (.ol ts))) (hs : σ[i]? = some (some (.ref p))) (hA : A (d, i) = some p) (h : reps G A0 F us ws) :
    Rel G d A0 F0 H0 A (env.set i (some (.ol us))) σ F (upd H p (.lst ws)) where
  ok0 := R.ok0
  dep0 := R.dep0
  len := by rw [List.length_set]; exact R.len
  agree := R.agree
  dep := R.dep
  inj := R.inj
  own := fun j a z => by
    obtain ⟨h1, h2, h3⟩ := R.own j a z
    refine ⟨h1, h2, ?_⟩
    by_cases c : a = p
    · rw [c, upd_same]; trivial
    · rw [upd_ne c]; exact h3
  exF := R.exF
  sub := fun a o y => by
    have c : a ≠ p := fun c => by
      rw [c, (R.own i p hA).1] at y
      cases y
    rw [upd_ne c]
    exact R.sub a o y
  keep := fun a o y => by
    have c : a ≠ p := fun c => by
      rw [c, (R.own i p hA).2.1] at y
      cases y
    rw [upd_ne c]
    exact R.keep a o y
  sep := R.sep
  fz := fun j u y => by
    by_cases c : i = j
    · subst c
      rw [List.getElem?_set_self (get_lt e)] at y
      cases y
    · rw [List.getElem?_set_ne c] at y
      exact R.fz j u y
  ol := fun j u y => by
    by_cases c : i = j
    · subst c
      rw [List.getElem?_set_self (get_lt e)] at y
      cases y
      exact ⟨p, ws, hs, hA, upd_same, h⟩
    · rw [List.getElem?_set_ne c] at y
      obtain ⟨p2, vs, h1, h2, h3, h4⟩ := R.ol j u y
      refine ⟨p2, vs, h1, h2, ?_, h4⟩
      rw [upd_ne (fun z => c (by rw [z] at h2; exact (Prod.mk.inj (R.inj _ _ _ h2 hA)).2.symm))]
      exact h3
  oi := fun j cc ns u y => by
    by_cases c : i = j
    · subst c
      rw [List.getElem?_set_self (get_lt e)] at y
      cases y
    · rw [List.getElem?_set_ne c] at y
      obtain ⟨p2, dx, vs, h1, h2, h3, h5, h4⟩ := R.oi j cc ns u y
      refine ⟨p2, dx, vs, h1, h2, ?_, h5, h4⟩
      rw [upd_ne (fun z => c (by rw [z] at h2; exact (Prod.mk.inj (R.inj _ _ _ h2 hA)).2.symm))]
      exact h3
  pin := R.pin
theorem rd_ol {env : Fv} {ts : List T} (e : env[i]? = some (some (.ol ts))) : rd d i env = some (.lst (some (d, i)) ts) := by
  unfold rd
  rw [e]
theorem ss_app (he : SE G d W te p) : SS G d W (tDrop (tBM G.K "list" rAppend (tVar i) (tCons te tNil))) (S.app i p) := fun A0 F0 H0 A env σ F H D R o => by
  unfold S.app at o
  split at o
  · rename_i ts e
    obtain ⟨pa, vs, h1, h2, h3, h4⟩ := R.ol i ts e
    refine ⟨_, h1, Or.inl ⟨rfl, vs, SqL.of h3⟩, R.run he o fun r v F1 H1 R1 r1 o1 => ?_⟩
    obtain ⟨hz, o2⟩ := OutS.of_if o1
    obtain ⟨pb, vs1, k1, k2, k3, k4⟩ := R1.ol i ts e
    rw [h1] at k1
    cases k1
    refine ⟨_, vs1, v, rfl, rfl, k3, by rw [k4.length]; exact hz, ?_⟩
    exact o2 _ _ _ _ (R1.wr e h1 k2 (k4.append (reps.one r1)))
  · exact o.elim
theorem ss_appX (he : SE G d W te p) : SS G d W (tDrop (tBM G.K "list" rAppend (tVar i) (tCons te tNil))) (S.appX i p) := fun A0 F0 H0 A env σ F H D R o => by
  unfold S.appX at o
  split at o
  · rename_i ts e
    obtain ⟨pa, vs, h1, h2, h3, h4⟩ := R.ol i ts e
    refine ⟨_, h1, Or.inl ⟨rfl, vs, SqL.of h3⟩, R.runX he o fun r v F1 H1 R1 r1 o1 => ?_⟩
    obtain ⟨⟨hf, hz⟩, o2⟩ := OutS.of_if o1
    obtain ⟨pb, vs1, k1, k2, k3, k4⟩ := R1.ol i ts e
    rw [h1] at k1
    cases k1
    refine ⟨_, vs1, v, rfl, rfl, k3, by rw [k4.length]; exact hz, ?_⟩
    exact o2 _ _ _ _ (R1.wr e h1 k2 (k4.append (reps.one (r1 hf))))
  · exact o.elim
theorem ixN_len {n m : Nat} {z : Int} (h : ixN n z = some m) : m < n := (ixN_seq h).2.1
theorem ss_setX (he : SE G d W te p) (hk : SE G d W tk q) : SS G d W (tAsg te (gSub (tVar i) tk rSetL)) (S.setX i q p) := fun A0 F0 H0 A env σ F H D R o => by
  unfold S.setX at o
  split at o
  · rename_i ts e
    refine R.runX he o fun r v F1 H1 R1 r1 o1 => ?_
    obtain ⟨pb, vs1, k1, k2, k3, k4⟩ := R1.ol i ts e
    refine ⟨_, k1, R1.runX hk o1 fun j w F2 H2 R2 r2 o2 => ?_⟩
    cases j <;> (try exact o2.elim)
    rename_i z
    have hw : w = .int z := r2 rfl
    subst hw
    obtain ⟨pc, vs2, l1, l2, l3, l4⟩ := R2.ol i ts e
    rw [k1] at l1
    cases l1
    have o3 : OutS G d A0 F0 H0 W D (match ixN ts.length z with | some m => if flat r = true then .nx (env.set i (some (.ol (ts.set m r)))) else .stuck | none => .stuck) := o2
    cases hm : ixN ts.length z with
    | none => rw [hm] at o3; exact o3.elim
    | some m =>
      rw [hm] at o3
      obtain ⟨hf, o4⟩ := OutS.of_if o3
      refine ⟨_, vs2, z, m, rfl, rfl, l3, by rw [l4.length]; exact hm, ?_⟩
      exact o4 _ _ _ _ (R2.wr e k1 l2 (l4.set m (rep.flat hf (r1 hf))))
  · exact o.elim
/-! ### loops -/
theorem Rel.rebase {Fx : Hp} (R : Rel G d A0 F0 H0 A env σ F H) (e1 : Ex F0 Fx) (e2 : Ex Fx F) : Rel G d A0 Fx H0 A env σ F H :=
  ⟨R.ok0.mono e1, R.dep0, R.len, R.agree, R.dep, R.inj, R.own, e2, R.sub, R.keep, fun a h1 h2 => R.sep a (none_of_ex e1 h1) h2, R.fz, R.ol, R.oi, R.pin⟩
theorem Rel.unbase {Fx : Hp} (R : Rel G d A0 Fx H0 A env σ F H) (ok : AOk A0 F0) (e1 : Ex F0 Fx) (sp : ∀ a, F0 a = none → H0 a ≠ none → Fx a = none) : Rel G d A0 F0 H0 A env σ F H :=
  ⟨ok, R.dep0, R.len, R.agree, R.dep, R.inj, R.own, e1.trans R.exF, R.sub, R.keep, fun a h1 h2 => R.sep a (sp a h1 h2) h2, R.fz, R.ol, R.oi, R.pin⟩
theorem OutS.rebase {Fx : Hp} {m : RS} (ok : AOk A0 F0) (e1 : Ex F0 Fx) (sp : ∀ a, F0 a = none → H0 a ≠ none → Fx a = none) (o : OutS G d A0 F0 H0 W D m) : OutS G d A0 Fx H0 W D m := by
  cases m with
  | nx env => exact fun A σ F H R => o A σ F H (R.unbase ok e1 sp)
  | br env => exact fun A σ F H R => o A σ F H (R.unbase ok e1 sp)
  | ct env => exact fun A σ F H R => o A σ F H (R.unbase ok e1 sp)
  | er e env => exact fun A σ F H dx R x => o A σ F H dx (R.unbase ok e1 sp) x
  | rt t => exact fun v F H g r => o v F H ⟨e1.trans g.ex, g.sub, g.keep, fun a h1 h2 => g.sep a (sp a h1 h2) h2⟩ r
  | stuck => exact o
/-- what a target does -/
def SG (G : Ge) (d : Nat) (g : TG) (tg : T → Fv → Option Fv) : Prop :=
  ∀ A0 F0 H0 A env σ F H t v env1 (Q : L2.St → Hp → Prop), Rel G d A0 F0 H0 A env σ F H → rep G A0 F t v → tg t env = some env1 → (∀ A' σ', Rel G d A0 F0 H0 A' env1 σ' F H → Q σ' H) → g v σ H Q
theorem sg_name (hp : i = 0 → G.c.pin = none) : SG G d (gName i) (S.tName i) := fun A0 F0 H0 A env σ F H t v env1 Q R r e k => by
  unfold S.tName at e
  by_cases hi : i < env.length
  · rw [if_pos hi] at e
    cases e
    obtain ⟨A', R'⟩ := R.set r hi hp
    exact k A' _ R'
  · rw [if_neg hi] at e
    cases e
def SGs (G : Ge) (d : Nat) (g : TGs) (gs : List (T → Fv → Option Fv)) : Prop :=
  ∀ A0 F0 H0 A env σ F H ts vs env1 (Q : L2.St → Hp → Prop), Rel G d A0 F0 H0 A env σ F H → reps G A0 F ts vs → S.tNames gs ts env = some env1 → (∀ A' σ', Rel G d A0 F0 H0 A' env1 σ' F H → Q σ' H) → g vs σ H Q
theorem sgs_nil : SGs G d gNil [] := fun A0 F0 H0 A env σ F H ts vs env1 Q R r e k => by
  cases ts with
  | nil =>
    have r' : vs = [] := r
    cases e
    exact ⟨r', k A σ R⟩
  | cons _ _ => cases e
theorem sgs_cons {g : TG} {gg : TGs} {tg : T → Fv → Option Fv} {tgs : List (T → Fv → Option Fv)} (h1 : SG G d g tg) (h2 : SGs G d gg tgs) : SGs G d (gCons g gg) (tg :: tgs) := fun A0 F0 H0 A env σ F H ts vs env1 Q R r e k => by
  cases ts with
  | nil => cases e
  | cons t ts =>
    obtain ⟨v, ws, rfl, r1, r2⟩ := r
    obtain ⟨env2, e1, e2⟩ := Option.bind_eq_some_iff.mp (show (tg t env).bind (fun env => S.tNames tgs ts env) = some env1 from e)
    exact ⟨v, ws, rfl, h1 A0 F0 H0 A env σ F H t v env2 _ R r1 e1 fun A' σ' R' => h2 A0 F0 H0 A' env2 σ' F H ts ws env1 Q R' r2 e2 k⟩
theorem sg_tup {n : Nat} {gg : TGs} {tgs : List (T → Fv → Option Fv)} (h : SGs G d gg tgs) (hn : n = tgs.length) : SG G d (gTup G.K n gg) (S.tTup tgs) := fun A0 F0 H0 A env σ F H t v env1 Q R r e k => by
  cases t <;> (try cases e)
  rename_i ts
  obtain ⟨a, vs, rfl, h1, h2⟩ := r
  have e' : S.tNames tgs ts env = some env1 := e
  have hl : ∀ (tgs : List (T → Fv → Option Fv)) (ts : List T) (env : Fv), S.tNames tgs ts env = some env1 → ts.length = tgs.length := by
    intro tgs
    induction tgs with
    | nil =>
      intro ts env e
      cases ts with
      | nil => rfl
      | cons _ _ => cases e
    | cons tg tgs ih =>
      intro ts env e
      cases ts with
      | nil => cases e
      | cons t ts =>
        obtain ⟨env2, e1, e2⟩ := Option.bind_eq_some_iff.mp (show (tg t env).bind (fun env => S.tNames tgs ts env) = some env1 from e)
        rw [List.length_cons, List.length_cons, ih ts env2 e2]
  exact ⟨a, vs, rfl, ex_t R.sub h1, by rw [h2.length, hn]; exact hl tgs ts env e', h A0 F0 H0 A env σ F H ts vs env1 Q R h2 e' k⟩
theorem ss_unp {g : TG} {tg : T → Fv → Option Fv} (he : SE G d W te p) (hg : SG G d g tg) : SS G d W (tAsg te g) (S.unp tg p) := fun A0 F0 H0 A env σ F H D R o =>
  R.run he o fun r v F1 H1 R1 r1 o1 => by
    cases z : tg r env with
    | none =>
      simp only [z] at o1
      exact o1.elim
    | some env1 =>
      simp only [z] at o1
      exact hg A0 F0 H0 A env σ F1 H1 r v env1 D.nx R1 r1 z fun A' σ' R' => o1 A' σ' F1 H1 R'
/-- what is walked -/
structure ItIs (G : Ge) (A : Al) (Fx : Hp) (ts : List T) (J : It) : Prop where
  go : ∀ i H, Ex Fx H → i < ts.length → J.go i H
  stop : ∀ i H, Ex Fx H → ts.length ≤ i → J.stop i H
  yld : ∀ i F H x H' t, Ex Fx F → Ex F H → ts[i]? = some t → J.yld i H x H' → ∃ F', Grow F H F' H' ∧ rep G A F' t x
def SI (G : Ge) (d : Nat) (W : WX) (wi : TI) (p : Fv → Res (List T)) : Prop :=
  ∀ A env σ F H Q, RE G d A env σ F → Ex F H → Outg G A F H (ItIs G A) Q (WE W σ) (p env) → wi σ H Q
def LoopAt (G : Ge) (d : Nat) (A0 : Al) (Fx H0 : Hp) (W : WX) (D : Ends) (tg : T → Fv → Option Fv) (s : Sx) (ts : List T) (k : Nat) (σ : L2.St) (H : Hp) : Prop :=
  ∃ A env F, Rel G d A0 Fx H0 A env σ F H ∧ OutS G d A0 Fx H0 W D (S.turns tg s (ts.drop k) env)
theorem ItIs.loop {tg : T → Fv → Option Fv} {g : TG} {ts : List T} {J : It} {Fx : Hp} (hJ : ItIs G A0 Fx ts J) (hg : SG G d g tg) (hb : SS G d W t s) (h : LoopAt G d A0 Fx H0 W D tg s ts 0 σ H) :
    ∃ Wf : Nat → Nat → L2.St → Hp → Prop, (∃ m, Wf 0 m σ H) ∧ ∀ i m σ H, Wf i m σ H →
      (J.stop i H ∧ D.nx σ H) ∨ (J.go i H ∧ ∃ N : L2.St → Hp → Prop, (∀ σ' H', N σ' H' → ∃ m', m' < m ∧ Wf (i + 1) m' σ' H') ∧ ∀ x H', J.yld i H x H' → g x σ H' fun σ2 H2 => t { D with nx := N, ct := N, bk := D.nx } σ2 H2) := by
  refine ⟨fun i m σ H => m = ts.length - i ∧ i ≤ ts.length ∧ LoopAt G d A0 Fx H0 W D tg s ts i σ H, ⟨ts.length, by simp, Nat.zero_le _, h⟩, ?_⟩
  rintro i m σ H ⟨rfl, hi, A, env, F, R, o⟩
  have eH : Ex Fx H := R.exF.trans R.sub
  by_cases hlt : i < ts.length
  · refine .inr ⟨hJ.go i H eH hlt, LoopAt G d A0 Fx H0 W D tg s ts (i + 1), fun σ' H' p' => ⟨ts.length - (i + 1), by omega, rfl, hlt, p'⟩, fun x H' y => ?_⟩
    have hx : ts[i]? = some ts[i] := List.getElem?_eq_getElem hlt
    obtain ⟨F', gr, rx⟩ := hJ.yld i F H x H' _ R.exF R.sub hx y
    have R1 := R.grow gr
    rw [List.drop_eq_getElem_cons hlt] at o
    have o' : OutS G d A0 Fx H0 W D (match tg ts[i] env with
      | some env1 => (match s env1 with
        | .nx env => S.turns tg s (ts.drop (i + 1)) env
        | .ct env => S.turns tg s (ts.drop (i + 1)) env
        | .br env => .nx env
        | r => r)
      | none => .stuck) := o
    cases z : tg ts[i] env with
    | none => rw [z] at o'; exact o'.elim
    | some env1 =>
      rw [z] at o'
      refine hg A0 Fx H0 A env σ F' H' _ x env1 _ R1 rx z fun A' σ' R' => hb A0 Fx H0 A' env1 σ' F' H' _ R' ?_
      cases z2 : s env1 with
      | nx e1 => simp only [z2] at o'; exact fun A σ F H R => ⟨A, e1, F, R, o'⟩
      | ct e1 => simp only [z2] at o'; exact fun A σ F H R => ⟨A, e1, F, R, o'⟩
      | br e1 => simp only [z2] at o'; exact fun A σ F H R => o' A σ F H R
      | rt t => simp only [z2] at o'; exact o'
      | er e e1 => simp only [z2] at o'; exact o'
      | stuck => simp only [z2] at o'; exact o'
  · have e : i = ts.length := by omega
    subst e
    rw [List.drop_eq_nil_of_le (Nat.le_refl _)] at o
    exact .inl ⟨hJ.stop _ H eH (Nat.le_refl _), o A σ F H R⟩
theorem ss_for {wi : TI} {g : TG} {tg : T → Fv → Option Fv} {pi : Fv → Res (List T)} (hi : SI G d W wi pi) (hg : SG G d g tg) (hb : SS G d W t s) : SS G d W (tFor wi g t) (S.for_ tg pi s) := fun A0 F0 H0 A env σ F H D R o => by
  refine hi A0 (hide env) σ F H _ R.reH R.sub ?_
  have o' : OutS G d A0 F0 H0 W D ((pi (hide env)).then_ env fun ts => S.turns tg s ts env) := o
  cases z : pi (hide env) with
  | er e => rw [z] at o'; exact fun dx F1 H1 g x => o' A σ F1 H1 dx (R.grow g) x
  | stuck => rw [z] at o'; exact o'
  | ok ts =>
    rw [z] at o'
    intro J F1 H1 gr hJ
    have R1 := R.grow gr
    have R2 := R1.rebase R1.exF (Ex.refl _)
    exact hJ.loop hg hb ⟨A, env, F1, R2, o'.rebase R.ok0 R1.exF R1.sep⟩
/-- the numbers of a range do not hang on the frame's own things -/
theorem ItIs.flat {A A' : Al} {Fx : Hp} {J : It} {ts : List T} (f : ts.all Py.flat = true) (h : ItIs G A Fx ts J) (e : Ex F Fx) (hl : ∀ i H x H' , J.yld i H x H' → H' = H) (hgo : ∀ i H, i < ts.length → J.go i H) (hst : ∀ i H, ts.length ≤ i → J.stop i H)
    (hv : ∀ i H x H' t, ts[i]? = some t → J.yld i H x H' → ∀ F, rep G A F t x) : ItIs G A' F ts J where
  go := fun i H _ => hgo i H
  stop := fun i H _ => hst i H
  yld := fun i F H x H' t _ e2 ht y => by
    have e := hl i H x H' y
    subst e
    exact ⟨F, Grow.refl e2, rep.flat (List.all_eq_true.mp f t (List.mem_of_getElem? ht)) (hv i _ x _ t ht y F)⟩
/-- whatever is walked without the heap -/
structure ItF (G : Ge) (ts : List T) (J : It) : Prop where
  go : ∀ i H, i < ts.length → J.go i H
  stop : ∀ i H, ts.length ≤ i → J.stop i H
  yld : ∀ i H x H' t, ts[i]? = some t → J.yld i H x H' → H' = H ∧ ∀ A F, rep G A F t x
theorem ItF.is {ts : List T} {J : It} (h : ItF G ts J) : ItIs G A F ts J :=
  ⟨fun i H _ => h.go i H, fun i H _ => h.stop i H, fun i F H x H' t _ e ht y => by
    obtain ⟨e1, r⟩ := h.yld i H x H' t ht y
    subst e1
    exact ⟨F, Grow.refl e, r A F⟩⟩
def SIF (G : Ge) (d : Nat) (W : WX) (wi : TI) (p : Fv → Res (List T)) : Prop :=
  ∀ A env σ F H Q, RE G d A env σ F → Ex F H → Outg G A F H (fun _ => ItF G) Q (WE W σ) (p env) → wi σ H Q
theorem SIF.si {wi : TI} {p : Fv → Res (List T)} (h : SIF G d W wi p) : SI G d W wi p := fun A env σ F H Q R e o => h A env σ F H Q R e (by
  cases z : p env with
  | ok ts => rw [z] at o; exact fun J F1 H1 g r => o J F1 H1 g r.is
  | er e => rw [z] at o; exact o
  | stuck => rw [z] at o; exact o)
theorem ss_forX {wi : TI} {g : TG} {tg : T → Fv → Option Fv} {pi : Fv → Res (List T)} (hi : SIF G d W wi pi) (hg : SG G d g tg) (hb : SS G d W t s) : SS G d W (tFor wi g t) (S.forX tg pi s) := fun A0 F0 H0 A env σ F H D R o => by
  refine hi A env σ _ H _ R.re R.subP (R.outX (k := fun ts => if ts.all Py.flat = true then S.turns tg s ts env else .stuck) o fun ts J F1 H1 R1 hJ o1 => ?_)
  obtain ⟨_, o2⟩ := OutS.of_if o1
  have R2 := R1.rebase R1.exF (Ex.refl _)
  exact hJ.is.loop hg hb ⟨A, env, _, R2, o2.rebase R.ok0 R1.exF R1.sep⟩
/-! ### a while -/
theorem while_at {n : Nat} (ht : ST G d W tt b) (hb : SS G d W t s) (R : Rel G d A0 F0 H0 A env σ F H) (o : OutS G d A0 F0 H0 W D (S.while_ b s n env)) : tWhile tt t D σ H := by
  refine ⟨fun n σ H => ∃ A env F, Rel G d A0 F0 H0 A env σ F H ∧ OutS G d A0 F0 H0 W D (S.while_ b s n env), ⟨n, A, env, F, R, o⟩, ?_⟩
  rintro n σ H ⟨A, env, F, R, o⟩
  cases n with
  | zero => exact o.elim
  | succ n =>
    refine R.runT ht o fun r F1 H1 R1 o1 => ?_
    cases r with
    | false => exact o1 A σ F1 H1 R1
    | true =>
      show ∃ N : L2.St → Hp → Prop, (∀ σ' H', N σ' H' → ∃ m', m' < n + 1 ∧ _) ∧ _
      refine ⟨fun σ H => ∃ A env F, Rel G d A0 F0 H0 A env σ F H ∧ OutS G d A0 F0 H0 W D (S.while_ b s n env), fun σ' H' p => ⟨n, Nat.lt_succ_self n, p⟩, hb A0 F0 H0 A env σ F1 H1 _ R1 ?_⟩
      have o2 : OutS G d A0 F0 H0 W D (match s env with
        | .nx env => S.while_ b s n env
        | .ct env => S.while_ b s n env
        | .br env => .nx env
        | r => r) := o1
      cases z2 : s env with
      | nx e1 => simp only [z2] at o2; exact fun A σ F H R => ⟨A, e1, F, R, o2⟩
      | ct e1 => simp only [z2] at o2; exact fun A σ F H R => ⟨A, e1, F, R, o2⟩
      | br e1 => simp only [z2] at o2; exact fun A σ F H R => o2 A σ F H R
      | rt t => simp only [z2] at o2; exact o2
      | er e e1 => simp only [z2] at o2; exact o2
      | stuck => simp only [z2] at o2; exact o2
theorem ss_while {n : Nat} (ht : ST G d W tt b) (hb : SS G d W t s) : SS G d W (tWhile tt t) (S.while_ b s n) := fun A0 F0 H0 A env σ F H D R o => while_at ht hb R o
end
/-! ### what is walked -/
section
variable {G : Ge} {d : Nat} {W : WX} {A : Al} {F H : Hp} {te : TE} {p : P.Ex1} {ta : TA} {a : P.Ax}
def rng (lo : Int) (n : Nat) : List T := (List.range n).map fun (k : Nat) => .int (lo + (k : Int))
theorem itF_rng {lo : Int} {n : Nat} : ItF G (rng lo n) (Itr lo n) where
  go := fun i H h => by
    unfold rng at h
    rw [List.length_map, List.length_range] at h
    exact h
  stop := fun i H h => by
    unfold rng at h
    rw [List.length_map, List.length_range] at h
    exact h
  yld := fun i H x H' t ht y => by
    obtain ⟨e1, e2⟩ := y
    refine ⟨e1, fun A F => ?_⟩
    unfold rng at ht
    rw [List.getElem?_map] at ht
    cases q : (List.range n)[i]? with
    | none => rw [q] at ht; cases ht
    | some k =>
      rw [q] at ht
      cases ht
      obtain ⟨_, e3⟩ := List.getElem?_eq_some_iff.mp q
      rw [List.getElem_range] at e3
      subst e3
      exact e2
def rfit (i : Int) : Bool := decide (-(2 ^ 62) ≤ i) && decide (i < 2 ^ 62)
def P.rng1 (a : P.Ax) : Fv → Res (List T) := fun env => (a env).bind fun
  | [.int n] => if rfit n = true then .ok (rng 0 n.toNat) else .stuck
  | _ => .stuck
def P.rng2 (a : P.Ax) : Fv → Res (List T) := fun env => (a env).bind fun
  | [.int m, .int n] => if (rfit m && rfit n) = true then .ok (rng m (n - m).toNat) else .stuck
  | _ => .stuck
theorem Outg.if_ {α β : Type} {R : Hp → α → β → Prop} {Q : β → Hp → Prop} {E : XK} {c : Prop} [Decidable c] {m : Res α} (o : Outg G A F H R Q E (if c then m else .stuck)) : c ∧ Outg G A F H R Q E m := by
  by_cases h : c
  · rw [if_pos h] at o
    exact ⟨h, o⟩
  · rw [if_neg h] at o
    exact o.elim
theorem sif_rng1 (ha : SA G d W ta a) : SIF G d W (iRng1 ta) (P.rng1 a) := fun A env σ F H Q R e o =>
  ha A env σ F H _ R e (Outg.bind o fun xs vs F1 H1 g1 rs o1 => by
    match xs, rs, o1 with
    | [.int n], rs, o1 =>
      obtain ⟨v, ws, rfl, r1, r2⟩ := rs
      have r1' : v = .int n := r1
      have r2' : ws = [] := r2
      subst r1' r2'
      obtain ⟨c, o2⟩ := Outg.if_ o1
      obtain ⟨c1, c2⟩ := band c
      exact ⟨n, rfl, of_decide_eq_true c1, of_decide_eq_true c2, o2 _ F1 H1 (Grow.refl g1.sub) itF_rng⟩
    | [], _, o1 => exact o1.elim
    | .non :: _, _, o1 => exact o1.elim
    | .bl _ :: _, _, o1 => exact o1.elim
    | .str _ :: _, _, o1 => exact o1.elim
    | .lst _ _ :: _, _, o1 => exact o1.elim
    | .tup _ :: _, _, o1 => exact o1.elim
    | .ro _ :: _, _, o1 => exact o1.elim
    | .ins _ _ _ _ :: _, _, o1 => exact o1.elim
    | .exn _ _ _ :: _, _, o1 => exact o1.elim
    | .int _ :: _ :: _, _, o1 => exact o1.elim)
theorem sif_rng2 (ha : SA G d W ta a) : SIF G d W (iRng2 ta) (P.rng2 a) := fun A env σ F H Q R e o =>
  ha A env σ F H _ R e (Outg.bind o fun xs vs F1 H1 g1 rs o1 => by
    split at o1
    · rename_i m n
      obtain ⟨v, ws, rfl, r1, v2, ws2, rfl, r2, r3⟩ := rs
      have r1' : v = .int m := r1
      have r2' : v2 = .int n := r2
      have r3' : ws2 = [] := r3
      subst r1' r2' r3'
      obtain ⟨c, o2⟩ := Outg.if_ o1
      obtain ⟨c1, c2⟩ := band c
      obtain ⟨c3, c4⟩ := band c1
      obtain ⟨c5, c6⟩ := band c2
      exact ⟨m, n, rfl, ⟨of_decide_eq_true c3, of_decide_eq_true c4, of_decide_eq_true c5, of_decide_eq_true c6⟩, o2 _ F1 H1 (Grow.refl g1.sub) itF_rng⟩
    · exact o1.elim)
/-- a list or a tuple -/
def iSeq (K : PySem.W.Frag) (tl : TE) : TI := fun σ H R => tl σ H fun x H1 => ∃ a, x = .ref a ∧ (((∃ xs, SqL K H1 a xs) ∧ R (Itl K a) H1) ∨ ((∃ xs, SqT K H1 a xs) ∧ R (Itt K a) H1))
theorem pi_seq {X : Cx} {tg l : Expr} {tl : TE} (hl : PE X l tl) : PI X tg l (iSeq X.K tl) := by
  refine ⟨fun pins s σ H R I h => ?_⟩
  refine thn (hl.run pins s σ H _ I h) fun v s1 ⟨x, H1, I1, r1, q1⟩ => ?_
  obtain ⟨a, e, q1⟩ := q1
  subst e
  cases r1
  rcases q1 with ⟨⟨xs, hq⟩, q⟩ | ⟨⟨xs, hq⟩, q⟩
  · obtain ⟨its, rv, p, hz⟩ := I1.list hq
    refine wpAny_pyIter_list p.isList ?_
    refine ⟨s1.heap.objs.size, [s1.heap.objs.size], _, _, H1, rfl, I1.kept (t' := s1.toks) fun b o e => Heap.get?_push_of_some _ e, turn_list a _, ⟨_, Heap.get?_push_size _ rfl, rfl, rfl⟩, fun b hb => ?_, q⟩
    have e : b = s1.heap.objs.size := by simpa using hb
    subst e
    exact I1.fpOk (Nat.le_refl _) (I1.hok.fresh (Nat.le_refl _))
  · obtain ⟨its, rv, p, hz⟩ := I1.tuple hq
    refine wpAny_pyIter_tuple (show s1.heap.IsTuple a its.toArray from p) ?_
    refine ⟨s1.heap.objs.size, [s1.heap.objs.size], _, _, H1, rfl, I1.kept (t' := s1.toks) fun b o e => Heap.get?_push_of_some _ e, turn_tuple a _, ⟨_, Heap.get?_push_size _ rfl, rfl, rfl⟩, fun b hb => ?_, q⟩
    have e : b = s1.heap.objs.size := by simpa using hb
    subst e
    exact I1.fpOk (Nat.le_refl _) (I1.hok.fresh (Nat.le_refl _))
def P.items (p : P.Ex1) : Fv → Res (List T) := fun env => (p env).bind fun t => .of t.items
theorem itIs_list {a : Addr} {vs : List V} {ts : List T} (h : SqL G.K F a vs) (r : reps G A F ts vs) : ItIs G A F ts (Itl G.K a) where
  go := fun i H e hi => ⟨vs, vs[i]'(by rw [r.length]; exact hi), ex_l e h, List.getElem?_eq_getElem _⟩
  stop := fun i H e hi => ⟨vs, ex_l e h, by rw [r.length]; exact hi⟩
  yld := fun i F1 H x H' t e1 e2 ht y => by
    obtain ⟨e3, y⟩ := y
    subst e3
    obtain ⟨v, hv, rv⟩ := r.get ht
    have hx := y vs (ex_l (e1.trans e2) h)
    rw [hv] at hx
    cases hx
    exact ⟨F1, Grow.refl e2, rv.mono e1⟩
theorem itIs_tup {a : Addr} {vs : List V} {ts : List T} (h : SqT G.K F a vs) (r : reps G A F ts vs) : ItIs G A F ts (Itt G.K a) where
  go := fun i H e hi => ⟨vs, vs[i]'(by rw [r.length]; exact hi), ex_t e h, List.getElem?_eq_getElem _⟩
  stop := fun i H e hi => ⟨vs, ex_t e h, by rw [r.length]; exact hi⟩
  yld := fun i F1 H x H' t e1 e2 ht y => by
    obtain ⟨e3, y⟩ := y
    subst e3
    obtain ⟨v, hv, rv⟩ := r.get ht
    have hx := y vs (ex_t (e1.trans e2) h)
    rw [hv] at hx
    cases hx
    exact ⟨F1, Grow.refl e2, rv.mono e1⟩
theorem si_seq (he : SE G d W te p) : SI G d W (iSeq G.K te) (P.items p) := fun A env σ F H Q R e o =>
  he A env σ F H _ R e (Outg.bind o fun x v F1 H1 g1 rx o1 => by
    cases z : x.items with
    | none => rw [z] at o1; exact o1.elim
    | some ts =>
      rw [z] at o1
      obtain ⟨a, vs, rfl, s, r⟩ := items_of rx z
      rcases s with s | s
      · exact ⟨a, rfl, .inl ⟨⟨vs, ex_l g1.sub s⟩, o1 _ F1 H1 (Grow.refl g1.sub) (itIs_list s r)⟩⟩
      · exact ⟨a, rfl, .inr ⟨⟨vs, ex_t g1.sub s⟩, o1 _ F1 H1 (Grow.refl g1.sub) (itIs_tup s r)⟩⟩)
end
end Py

set_option Elab.async false
set_option linter.all false
set_option maxRecDepth 100000
set_option maxHeartbeats 4000000
namespace Py
open PySem L2 PySem.Spec PyProof.Rows Evl

/-! ### rule and reading together -/
structure DE (cl : Cl) (X : Cx) (d : Nat) (W : WX) (e : Expr) (p : P.Ex1) : Prop where
  ex : ∃ te, PE X e te ∧ SE ⟨X.K, cl⟩ d W te p
structure DT (cl : Cl) (X : Cx) (d : Nat) (W : WX) (e : Expr) (p : P.Bx) : Prop where
  ex : ∃ te, PT X e te ∧ ST ⟨X.K, cl⟩ d W te p
structure DW (cl : Cl) (X : Cx) (d : Nat) (W : WX) (e : Expr) (p : P.Bx) : Prop where
  ex : ∃ te, PW X e te ∧ ST ⟨X.K, cl⟩ d W te p
structure DA (cl : Cl) (X : Cx) (d : Nat) (W : WX) (es : List Expr) (p : P.Ax) : Prop where
  ex : ∃ te, PA X es te ∧ SA ⟨X.K, cl⟩ d W te p
structure DS (cl : Cl) (X : Cx) (d : Nat) (W : WX) (st : Stmt) (s : Sx) : Prop where
  ex : ∃ t, PS X st t ∧ SS ⟨X.K, cl⟩ d W t s
structure DB (cl : Cl) (X : Cx) (d : Nat) (W : WX) (st : List Stmt) (s : Sx) : Prop where
  ex : ∃ t, PSs X st t ∧ SS ⟨X.K, cl⟩ d W t s
structure DG (cl : Cl) (X : Cx) (d : Nat) (e : Expr) (tg : T → Fv → Option Fv) : Prop where
  ex : ∃ g, PG X e g ∧ SG ⟨X.K, cl⟩ d g tg
structure DGs (cl : Cl) (X : Cx) (d : Nat) (es : List Expr) (tgs : List (T → Fv → Option Fv)) : Prop where
  ex : ∃ g, PGs X es g ∧ SGs ⟨X.K, cl⟩ d g tgs
structure DI (cl : Cl) (X : Cx) (d : Nat) (W : WX) (tg e : Expr) (p : Fv → Res (List T)) : Prop where
  ex : ∃ wi, PI X tg e wi ∧ SI ⟨X.K, cl⟩ d W wi p
structure DIF (cl : Cl) (X : Cx) (d : Nat) (W : WX) (tg e : Expr) (p : Fv → Res (List T)) : Prop where
  ex : ∃ wi, PI X tg e wi ∧ SIF ⟨X.K, cl⟩ d W wi p
structure DN (cl : Cl) (X : Cx) (d : Nat) (W : WX) (e : Expr) (p : Fv → Res (List T)) : Prop where
  ex : ∃ te, PE X e te ∧ SN ⟨X.K, cl⟩ d W te p
section
variable {cl : Cl} {X : Cx} {d : Nat} {W : WX} {e e1 e2 e3 o : Expr} {es rest : List Expr} {p q r : P.Ex1} {a : P.Ax} {b b' : P.Bx} {pos p1 p2 : Pos} {f g : T → T → Option T} {s s' u : Sx} {st : Stmt} {sts sts' : List Stmt} {i : Nat}
theorem de_v (i : Nat) {x : Str} (hN : X.N[i]? = some x := by rfl) (hv : Vis X.env.scope x := by first | exact Or.inl rfl | exact Or.inr (Or.inl rfl) | exact Or.inr (Or.inr rfl)) (hd : (x == ("__debug__" : Str)) = false := by decide)
    (hcd : (x == ("__classdict__" : Str)) = false := by decide) : DE cl X d W (.Name x pos) (P.var d i) := ⟨_, pe_var hN hv hd hcd, se_var⟩
theorem de_int {n j} : DE cl X d W (.Constant (.int n) j pos) (P.c (.int n)) := ⟨_, pe_int, se_c fun _ _ => rfl⟩
theorem de_bl {n j} : DE cl X d W (.Constant (.bool n) j pos) (P.c (.bl n)) := ⟨_, pe_bl, se_c fun _ _ => rfl⟩
theorem de_str {n j} : DE cl X d W (.Constant (.str n) j pos) (P.c (.str n)) := ⟨_, pe_str, se_c fun _ _ => rfl⟩
theorem de_non {j} : DE cl X d W (.Constant .none j pos) (P.c .non) := ⟨_, pe_non, se_c fun _ _ => rfl⟩
/-- a name of the module that holds a plain thing -/
theorem de_g {x : Str} {v : V} {uu : Value} {t : T} (ht : ∀ G A F, rep G A F t v) (hm : X.mg x = some uu) (r : RelV v uu) (hg : Gl X x := by rfl) (hd : (x == ("__debug__" : Str)) = false := by decide) : DE cl X d W (.Name x pos) (P.c t) := ⟨_, pe_glob hg hm r hd, se_c fun A F => ht _ A F⟩
theorem de_op {op : Operator} (ho : OpD X cl (binaryOp op) f) (h1 : DE cl X d W e1 p) (h2 : DE cl X d W e2 q) : DE cl X d W (.BinOp e1 op e2 pos) (P.bin f p q) := by
  obtain ⟨r, a1, a2⟩ := ho
  obtain ⟨t1, b1, b2⟩ := h1
  obtain ⟨t2, c1, c2⟩ := h2
  exact ⟨_, pe_op a1 b1 c1, se_op a2 b2 c2⟩
theorem de_un {op : UnaryOp} {f : T → Option T} (ho : UnD X cl (unaryOp op) f) (h1 : DE cl X d W e1 p) : DE cl X d W (.UnaryOp op e1 pos) (P.un f p) := by
  obtain ⟨r, a1, a2⟩ := ho
  obtain ⟨t1, b1, b2⟩ := h1
  exact ⟨_, pe_un a1 b1, se_un a2 b2⟩
theorem de_cmp {op : CmpOp} (ho : OpD X cl (compareOp op) f) (h1 : DE cl X d W e1 p) (h2 : DE cl X d W e2 q) (hm : behindInMarks op e2 = false := by first | exact nomark _ | rfl) : DE cl X d W (.Compare e1 [op] [e2] pos) (P.bin f p q) := by
  obtain ⟨r, a1, a2⟩ := ho
  obtain ⟨t1, b1, b2⟩ := h1
  obtain ⟨t2, c1, c2⟩ := h2
  exact ⟨_, pe_cmpR a1 b1 c1 hm, se_op a2 b2 c2⟩
theorem dt_cmp {op : CmpOp} (ho : OpD X cl (compareOp op) f) (h1 : DE cl X d W e1 p) (h2 : DE cl X d W e2 q) (hm : behindInMarks op e2 = false := by first | exact nomark _ | rfl) : DT cl X d W (.Compare e1 [op] [e2] pos) (P.tb (P.bin f p q)) := by
  obtain ⟨r, a1, a2⟩ := ho
  obtain ⟨t1, b1, b2⟩ := h1
  obtain ⟨t2, c1, c2⟩ := h2
  exact ⟨_, pt_cmpR a1 b1 c1 hm, st_test (se_op a2 b2 c2)⟩
theorem dt_val (h1 : DE cl X d W e p) (he : ∀ whole, isTrue e X.env whole = (do let v ← whole; standAt e.pos; holding [v] (truthy v)) := by intro _; rfl) : DT cl X d W e (P.tb p) := by
  obtain ⟨t1, b1, b2⟩ := h1
  exact ⟨_, pt_val b1 he, st_tb b2⟩
theorem dt_tr (h1 : DE cl X d W e p) (he : ∀ whole, isTrue e X.env whole = (do let v ← whole; standAt e.pos; holding [v] (truthy v)) := by intro _; rfl) : DT cl X d W e (P.tr p) := by
  obtain ⟨t1, b1, b2⟩ := h1
  exact ⟨_, pt_truth b1 he, st_tr b2⟩
theorem dt_not (h1 : DT cl X d W e b) : DT cl X d W (.UnaryOp .Not e pos) (P.not b) := by
  obtain ⟨t1, b1, b2⟩ := h1
  exact ⟨_, pt_not b1, st_not b2⟩
theorem dt_w (h1 : DW cl X d W e b) : DT cl X d W e b := by
  obtain ⟨t1, b1, b2⟩ := h1
  exact ⟨_, b1.pt, b2⟩
theorem dw_and1 (h1 : DT cl X d W e b) : DW cl X d W (.BoolOp .And [e] pos) b := by
  obtain ⟨t1, b1, b2⟩ := h1
  exact ⟨_, pw_and1 b1, b2⟩
theorem dw_or1 (h1 : DT cl X d W e b) : DW cl X d W (.BoolOp .Or [e] pos) b := by
  obtain ⟨t1, b1, b2⟩ := h1
  exact ⟨_, pw_or1 b1, b2⟩
theorem dw_and (h1 : DT cl X d W e1 b) (h2 : DW cl X d W (.BoolOp .And (e2 :: rest) pos) b') : DW cl X d W (.BoolOp .And (e1 :: e2 :: rest) pos) (P.and b b') := by
  obtain ⟨t1, b1, b2⟩ := h1
  obtain ⟨t2, c1, c2⟩ := h2
  exact ⟨_, pw_and b1 c1, st_and b2 c2⟩
theorem dw_or (h1 : DT cl X d W e1 b) (h2 : DW cl X d W (.BoolOp .Or (e2 :: rest) pos) b') : DW cl X d W (.BoolOp .Or (e1 :: e2 :: rest) pos) (P.or b b') := by
  obtain ⟨t1, b1, b2⟩ := h1
  obtain ⟨t2, c1, c2⟩ := h2
  exact ⟨_, pw_or b1 c1, st_or b2 c2⟩
theorem de_one {op} (h1 : DE cl X d W e p) : DE cl X d W (.BoolOp op [e] pos) p := by
  obtain ⟨t1, b1, b2⟩ := h1
  exact ⟨_, pe_one b1, b2⟩
theorem de_and (h1 : DE cl X d W e1 p) (h2 : DE cl X d W (.BoolOp .And (e2 :: rest) pos) q) : DE cl X d W (.BoolOp .And (e1 :: e2 :: rest) pos) (P.andV p q) := by
  obtain ⟨t1, b1, b2⟩ := h1
  obtain ⟨t2, c1, c2⟩ := h2
  exact ⟨_, pe_and b1 c1, se_andV b2 c2⟩
theorem de_or (h1 : DE cl X d W e1 p) (h2 : DE cl X d W (.BoolOp .Or (e2 :: rest) pos) q) : DE cl X d W (.BoolOp .Or (e1 :: e2 :: rest) pos) (P.orV p q) := by
  obtain ⟨t1, b1, b2⟩ := h1
  obtain ⟨t2, c1, c2⟩ := h2
  exact ⟨_, pe_or b1 c1, se_orV b2 c2⟩
theorem de_not (h1 : DE cl X d W e p) : DE cl X d W (.UnaryOp .Not e pos) (P.notV p) := by
  obtain ⟨t1, b1, b2⟩ := h1
  exact ⟨_, pe_not b1, se_notV b2⟩
theorem de_ite (ht : DT cl X d W e b) (h1 : DE cl X d W e1 p) (h2 : DE cl X d W e2 q) : DE cl X d W (.IfExp e e1 e2 pos) (P.ite b p q) := by
  obtain ⟨t0, a1, a2⟩ := ht
  obtain ⟨t1, b1, b2⟩ := h1
  obtain ⟨t2, c1, c2⟩ := h2
  exact ⟨_, pe_ifExp a1 b1 c1, se_if a2 b2 c2⟩
theorem de_chain {op op' : CmpOp} (ho : OpD X cl (compareOp op) f) (ho' : OpD X cl (compareOp op') g) (h1 : DE cl X d W e1 p) (h2 : DE cl X d W e2 q) (h3 : DE cl X d W e3 r) (hm : lastMarks [op, op'] [e2, e3] = false := by rfl) : DE cl X d W (.Compare e1 [op, op'] [e2, e3] pos) (P.chain f g p q r) := by
  obtain ⟨r1, x1, x2⟩ := ho
  obtain ⟨r2, y1, y2⟩ := ho'
  obtain ⟨t0, a1, a2⟩ := h1
  obtain ⟨t1, b1, b2⟩ := h2
  obtain ⟨t2, c1, c2⟩ := h3
  exact ⟨_, pe_chain x1 y1 a1 b1 c1 hm, se_chain x2 y2 a2 b2 c2⟩
theorem da_nil : DA cl X d W [] P.nil := ⟨_, pa_nil, sa_nil⟩
theorem da_cons (h1 : DE cl X d W e p) (h2 : DA cl X d W es a) (hs : starEach (e :: es) X.env = (false, eval e X.env) :: starEach es X.env := by rfl) : DA cl X d W (e :: es) (P.cons p a) := by
  obtain ⟨t1, b1, b2⟩ := h1
  obtain ⟨t2, c1, c2⟩ := h2
  exact ⟨_, pa_cons b1 c1 hs, sa_cons b2 c2⟩
theorem de_tup {x1} (h : DA cl X d W es a) : DE cl X d W (.Tuple es x1 pos) (P.tup a) := by
  obtain ⟨t1, b1, b2⟩ := h
  exact ⟨_, pe_tup b1, se_tup b2⟩
theorem de_lst (h : DA cl X d W es a) : DE cl X d W (.List es pos) (P.lst a) := by
  obtain ⟨t1, b1, b2⟩ := h
  exact ⟨_, pe_lst b1, se_lst b2⟩
theorem dn_lst (h : DA cl X d W es a) : DN cl X d W (.List es pos) (lfits a) := by
  obtain ⟨t1, b1, b2⟩ := h
  exact ⟨_, pe_lst b1, sn_lst b2⟩
theorem de_ix (h1 : DE cl X d W e1 p) (h2 : DE cl X d W e2 q) (hs : PlainIx e2 := by exact fun _ _ => rfl) : DE cl X d W (.Subscript e1 e2 pos) (P.bin T.ix p q) := by
  obtain ⟨r, a1, a2⟩ := ixD (X := X) (cl := cl)
  obtain ⟨t1, b1, b2⟩ := h1
  obtain ⟨t2, c1, c2⟩ := h2
  exact ⟨_, pe_ix a1 b1 c1 hs, se_op a2 b2 c2⟩
/-- a def of the module -/
theorem de_call {k n : Nat} {fa : Addr} {fd : FuncData} {ps : List Str} {f : Nat → List T → Res T} {x : Str} (F : FnOk X.prog X.w X.K X.mg X.base (L2.CX X.prog X.w) k fa fd ps (spT ⟨X.K, cl⟩ n f)) (hr : Room k X.A) (hm : X.mg x = some (.ref fa)) (hk : PySem.W.keepIn X.K (.ref fa) = true)
    (hb : Binds X.K fd ps []) (tk : Takes X W) (ha : DA cl X d W (e :: es) a) (hn : ∀ env xs, a env = .ok xs → xs.length = n) (hg : Gl X x := by rfl) (hdb : (x == ("__debug__" : Str)) = false := by decide)
    (he : starEach (e :: es) X.env = (false, eval e X.env) :: starEach es X.env := by rfl) (hpl : (backTo pos (starEach es X.env)).any (·.1) = false := by rfl) : DE cl X d W (.Call (.Name x p1) (e :: es) [] pos) (P.call (f (d + 1)) a) := by
  obtain ⟨t, c1, c2⟩ := ha
  exact ⟨_, pe_callS F hr hg hm hk hb (fun σ => passAt tk σ) c1 hdb he hpl, se_call rfl hn c2⟩
/-- how many arguments -/
theorem n_nil : ∀ env xs, P.nil env = .ok xs → xs.length = 0 := fun env xs h => by cases h; rfl
theorem n_cons {n : Nat} (h : ∀ env xs, a env = .ok xs → xs.length = n) : ∀ env xs, P.cons p a env = .ok xs → xs.length = n + 1 := fun env xs h2 => by
  unfold P.cons at h2
  cases z : p env with
  | ok x =>
    rw [z] at h2
    cases z2 : a env with
    | ok ys =>
      rw [Res.bind_ok, z2] at h2
      cases h2
      rw [List.length_cons, h env ys z2]
    | er e => rw [Res.bind_ok, z2] at h2; cases h2
    | stuck => rw [Res.bind_ok, z2] at h2; cases h2
  | er e => rw [z] at h2; cases h2
  | stuck => rw [z] at h2; cases h2

/-! ### statements -/
theorem db_nil : DB cl X d W [] S.skip := ⟨_, pss_nil, ss_skip⟩
theorem db_one (h : DS cl X d W st s) : DB cl X d W [st] s := by
  obtain ⟨t, a1, a2⟩ := h
  exact ⟨_, pss_one a1, a2⟩
theorem db_cons (h : DS cl X d W st s) (h2 : DB cl X d W sts u) : DB cl X d W (st :: sts) (S.seq s u) := by
  obtain ⟨t, a1, a2⟩ := h
  obtain ⟨t', b1, b2⟩ := h2
  exact ⟨_, pss_cons a1 b1, ss_seq a2 b2⟩
theorem ds_asg {i : Nat} {x : Str} {p' : Pos} (hN : X.N.Nodup) (h : DE cl X d W e p) (hi : X.N[i]? = some x := by rfl) (hx : Loc X.env.scope x := by first | exact Or.inl rfl | exact Or.inr rfl) (hs : swapsWith e (some (.Name x p')) pos.line X.env = pure false := by rfl)
    (hf : X.fn x = true ∨ X.env.scope.names.lookup x = some .local := by first | exact .inl rfl | exact .inr rfl) (hp : i = 0 → cl.pin = none := by first | (intro h; cases h) | (intro _; assumption)) : DS cl X d W (.Assign [.Name x p'] e pos) (S.asg i p) := by
  obtain ⟨t, a1, a2⟩ := h
  exact ⟨_, ps_set hN hi hx a1 hs hf, ss_asg a2 hp⟩
theorem ds_asgX {i : Nat} {x : Str} {p' : Pos} (hN : X.N.Nodup) (h : DE cl X d W e p) (hi : X.N[i]? = some x := by rfl) (hx : Loc X.env.scope x := by first | exact Or.inl rfl | exact Or.inr rfl) (hs : swapsWith e (some (.Name x p')) pos.line X.env = pure false := by rfl)
    (hf : X.fn x = true ∨ X.env.scope.names.lookup x = some .local := by first | exact .inl rfl | exact .inr rfl) (hp : i = 0 → cl.pin = none := by first | (intro h; cases h) | (intro _; assumption)) : DS cl X d W (.Assign [.Name x p'] e pos) (S.asgX i p) := by
  obtain ⟨t, a1, a2⟩ := h
  exact ⟨_, ps_set hN hi hx a1 hs hf, ss_asgX a2 hp⟩
theorem ds_new {i : Nat} {x : Str} {p' : Pos} {pn : Fv → Res (List T)} (hN : X.N.Nodup) (h : DN cl X d W e pn) (hi : X.N[i]? = some x := by rfl) (hx : Loc X.env.scope x := by first | exact Or.inl rfl | exact Or.inr rfl) (hs : swapsWith e (some (.Name x p')) pos.line X.env = pure false := by rfl)
    (hf : X.fn x = true ∨ X.env.scope.names.lookup x = some .local := by first | exact .inl rfl | exact .inr rfl) (hp : i = 0 → cl.pin = none := by first | (intro h; cases h) | (intro _; assumption)) : DS cl X d W (.Assign [.Name x p'] e pos) (S.new i pn) := by
  obtain ⟨t, a1, a2⟩ := h
  exact ⟨_, ps_set hN hi hx a1 hs hf, ss_new a2 hp⟩
theorem ds_frz (i : Nat) (h : DS cl X d W st s) (hp : i = 0 → cl.pin = none := by first | (intro h; cases h) | (intro _; assumption)) : DS cl X d W st (S.frz i s) := by
  obtain ⟨t, a1, a2⟩ := h
  exact ⟨_, a1, ss_frz a2 hp⟩
theorem ds_app {i : Nat} {x : Str} {apos p' : Pos} (h : DE cl X d W e p) (hN : X.N[i]? = some x := by rfl) (hv : Vis X.env.scope x := by first | exact Or.inl rfl | exact Or.inr (Or.inl rfl) | exact Or.inr (Or.inr rfl)) (hd : (x == ("__debug__" : Str)) = false := by decide) (hcd : (x == ("__classdict__" : Str)) = false := by decide)
    (hbase : attributeBase (.Name x p') "append" X.env (eval (.Name x p') X.env) = eval (.Name x p') X.env := by rfl)
    (hfew : ((backTo p1 (starEach [e] X.env)).all (fun x => !x.1) && (backToKw p1 (keywordEach [] X.env)).all (fun x => x.1.isSome) && decide ([e].length + ([] : List Keyword).length + (if ([] : List Keyword).isEmpty then 0 else 1) < 30)) = true := by rfl)
    (hline : (apos.endLine == p1.line) = true := by rfl) (hs : starEach [e] X.env = (false, eval e X.env) :: starEach [] X.env := by rfl) (hplain : (backTo p1 (starEach [] X.env)).any (·.1) = false := by rfl)
    (hsw : swapsWith (.Call (.Attribute (.Name x p') "append" apos) [e] [] p1) none pos.line X.env = pure false := by rfl) : DS cl X d W (.Expr (.Call (.Attribute (.Name x p') "append" apos) [e] [] p1) pos) (S.app i p) := by
  obtain ⟨t, a1, a2⟩ := h
  exact ⟨_, ps_expr (pe_bm PySem.F.plainAttrs_list PySem.F.slot_list_append PySem.F.type_list_append mt_append (pe_var hN hv hd hcd) (pa_cons a1 pa_nil hs) hbase hfew hline hs hplain) hsw, ss_app a2⟩
theorem ds_appX {i : Nat} {x : Str} {apos p' : Pos} (h : DE cl X d W e p) (hN : X.N[i]? = some x := by rfl) (hv : Vis X.env.scope x := by first | exact Or.inl rfl | exact Or.inr (Or.inl rfl) | exact Or.inr (Or.inr rfl)) (hd : (x == ("__debug__" : Str)) = false := by decide) (hcd : (x == ("__classdict__" : Str)) = false := by decide)
    (hbase : attributeBase (.Name x p') "append" X.env (eval (.Name x p') X.env) = eval (.Name x p') X.env := by rfl)
    (hfew : ((backTo p1 (starEach [e] X.env)).all (fun x => !x.1) && (backToKw p1 (keywordEach [] X.env)).all (fun x => x.1.isSome) && decide ([e].length + ([] : List Keyword).length + (if ([] : List Keyword).isEmpty then 0 else 1) < 30)) = true := by rfl)
    (hline : (apos.endLine == p1.line) = true := by rfl) (hs : starEach [e] X.env = (false, eval e X.env) :: starEach [] X.env := by rfl) (hplain : (backTo p1 (starEach [] X.env)).any (·.1) = false := by rfl)
    (hsw : swapsWith (.Call (.Attribute (.Name x p') "append" apos) [e] [] p1) none pos.line X.env = pure false := by rfl) : DS cl X d W (.Expr (.Call (.Attribute (.Name x p') "append" apos) [e] [] p1) pos) (S.appX i p) := by
  obtain ⟨t, a1, a2⟩ := h
  exact ⟨_, ps_expr (pe_bm PySem.F.plainAttrs_list PySem.F.slot_list_append PySem.F.type_list_append mt_append (pe_var hN hv hd hcd) (pa_cons a1 pa_nil hs) hbase hfew hline hs hplain) hsw, ss_appX a2⟩
theorem ds_setX {i : Nat} {x : Str} {p' : Pos} {x1} (h : DE cl X d W e p) (hk : DE cl X d W e2 q) (hN : X.N[i]? = some x := by rfl) (hv : Vis X.env.scope x := by first | exact Or.inl rfl | exact Or.inr (Or.inl rfl) | exact Or.inr (Or.inr rfl)) (hd : (x == ("__debug__" : Str)) = false := by decide) (hcd : (x == ("__classdict__" : Str)) = false := by decide)
    (hs : swapsWithSole [.Subscript (.Name x p') e2 x1] e pos.line X.env = pure false := by rfl) (hw : swappedStores [.Subscript (.Name x p') e2 x1] e X.env = pure none := by rfl)
    (ha : ∀ v, assign (.Subscript (.Name x p') e2 x1) X.env v = (do
      let ov ← holding [v] (eval (.Name x p') X.env)
      let iv ← holding [v, ov] (eval e2 X.env)
      standAt x1
      holding [v, ov, iv] (setItem ov iv v)
      release [v, ov, iv] []) := by intro _; rfl) : DS cl X d W (.Assign [.Subscript (.Name x p') e2 x1] e pos) (S.setX i q p) := by
  obtain ⟨t, a1, a2⟩ := h
  obtain ⟨t2, b1, b2⟩ := hk
  exact ⟨_, ps_asg a1 (pg_sub (pe_var hN hv hd hcd) b1 set_list ha) hs hw, ss_setX a2 b2⟩
theorem ds_expr (h : DE cl X d W e p) (hs : swapsWith e none pos.line X.env = pure false := by rfl) : DS cl X d W (.Expr e pos) (S.expr p) := by
  obtain ⟨t, a1, a2⟩ := h
  exact ⟨_, ps_expr a1 hs, ss_expr a2⟩
theorem ds_ret (h : DE cl X d W e p) : DS cl X d W (.Return (some e) pos) (S.ret p) := by
  obtain ⟨t, a1, a2⟩ := h
  exact ⟨_, ps_ret a1, ss_ret a2⟩
theorem ds_retX (h : DE cl X d W e p) : DS cl X d W (.Return (some e) pos) (S.retX p) := by
  obtain ⟨t, a1, a2⟩ := h
  exact ⟨_, ps_ret a1, ss_retX a2⟩
theorem ds_retN : DS cl X d W (.Return none pos) S.retN := ⟨_, ps_retN, ss_retN⟩
theorem ds_brk : DS cl X d W (.Break pos) S.brk := ⟨_, ps_break, ss_brk⟩
theorem ds_cnt : DS cl X d W (.Continue pos) S.cnt := ⟨_, ps_continue, ss_cnt⟩
theorem ds_pass : DS cl X d W (.Pass pos) S.skip := ⟨_, ps_pass, ss_skip⟩
theorem ds_if (ht : DT cl X d W e b) (h1 : DB cl X d W sts s) (h2 : DB cl X d W sts' s') : DS cl X d W (.If e sts sts' pos) (S.ite b s s') := by
  obtain ⟨t, a1, a2⟩ := ht
  obtain ⟨t1, b1, b2⟩ := h1
  obtain ⟨t2, c1, c2⟩ := h2
  exact ⟨_, ps_if a1 b1 c1, ss_if a2 b2 c2⟩
theorem ds_while (n : Nat) (po : PassesOwn (model X.prog X.w) X.A X.env X.xe) (ht : DT cl X d W e b) (h1 : DB cl X d W sts s) : DS cl X d W (.While e sts [] pos) (S.while_ b s n) := by
  obtain ⟨t, a1, a2⟩ := ht
  obtain ⟨t1, b1, b2⟩ := h1
  exact ⟨_, ps_while po a1 b1, ss_while a2 b2⟩
theorem dg_name {i : Nat} {x : Str} (hN : X.N.Nodup) (hi : X.N[i]? = some x := by rfl) (hx : Loc X.env.scope x := by first | exact Or.inl rfl | exact Or.inr rfl) (hf : X.fn x = true ∨ X.env.scope.names.lookup x = some .local := by first | exact .inl rfl | exact .inr rfl) (hp : i = 0 → cl.pin = none := by first | (intro h; cases h) | (intro _; assumption)) : DG cl X d (.Name x pos) (S.tName i) := ⟨_, pg_name hN hi hx hf, sg_name hp⟩
theorem dgs_nil : DGs cl X d [] [] := ⟨_, pgs_nil, sgs_nil⟩
theorem ds_for {tg it : Expr} {pi : Fv → Res (List T)} {tgs : T → Fv → Option Fv} (po : PassesOwn (model X.prog X.w) X.A X.env X.xe) (hi : DI cl X d W tg it pi) (hg : DG cl X d tg tgs) (hb : DB cl X d W sts s) (hc : X.calm = true := by rfl)
    (hs : ∀ x, foldedSetIterable it X.env x = pure x := by intro _; rfl) : DS cl X d W (.For tg it sts [] pos) (S.for_ tgs pi s) := by
  obtain ⟨t, a1, a2⟩ := hi
  obtain ⟨t1, b1, b2⟩ := hg
  obtain ⟨t2, c1, c2⟩ := hb
  exact ⟨_, ps_for po hc a1 b1 c1 hs, ss_for a2 b2 c2⟩
theorem ds_forX {tg it : Expr} {pi : Fv → Res (List T)} {tgs : T → Fv → Option Fv} (po : PassesOwn (model X.prog X.w) X.A X.env X.xe) (hi : DIF cl X d W tg it pi) (hg : DG cl X d tg tgs) (hb : DB cl X d W sts s) (hc : X.calm = true := by rfl)
    (hs : ∀ x, foldedSetIterable it X.env x = pure x := by intro _; rfl) : DS cl X d W (.For tg it sts [] pos) (S.forX tgs pi s) := by
  obtain ⟨t, a1, a2⟩ := hi
  obtain ⟨t1, b1, b2⟩ := hg
  obtain ⟨t2, c1, c2⟩ := hb
  exact ⟨_, ps_for po hc a1 b1 c1 hs, ss_forX a2 b2 c2⟩
theorem dif_rng1 {tg : Expr} (ha : DA cl X d W [e] a) (hm : X.mg "range" = none) (hg : Gl X "range" := by rfl) (hs : starEach [e] X.env = [(false, eval e X.env)] := by rfl) : DIF cl X d W tg (.Call (.Name "range" p1) [e] [] pos) (P.rng1 a) := by
  obtain ⟨t, a1, a2⟩ := ha
  exact ⟨_, pi_range1 hg hm a1 hs, sif_rng1 a2⟩
theorem dif_rng2 {tg : Expr} (ha : DA cl X d W [e, e2] a) (hm : X.mg "range" = none) (hg : Gl X "range" := by rfl) (hs : starEach [e, e2] X.env = [(false, eval e X.env), (false, eval e2 X.env)] := by rfl) (hs2 : starEach [e2] X.env = [(false, eval e2 X.env)] := by rfl) : DIF cl X d W tg (.Call (.Name "range" p1) [e, e2] [] pos) (P.rng2 a) := by
  obtain ⟨t, a1, a2⟩ := ha
  exact ⟨_, pi_range2 hg hm a1 hs hs2, sif_rng2 a2⟩
theorem DIF.di {tg it : Expr} {pi : Fv → Res (List T)} (h : DIF cl X d W tg it pi) : DI cl X d W tg it pi := by
  obtain ⟨t, a1, a2⟩ := h
  exact ⟨_, a1, a2.si⟩
theorem di_seq {tg : Expr} (h : DE cl X d W e p) : DI cl X d W tg e (P.items p) := by
  obtain ⟨t, a1, a2⟩ := h
  exact ⟨_, pi_seq a1, si_seq a2⟩
end
/-! ### a def -/
def fin : RS → Res T
  | .nx _ => .ok .non
  | .rt t => .ok t
  | .er e _ => .er e
  | _ => .stuck
/-- the frame at the entry -/
def ent (n : Nat) (ts : List T) : Fv := ts.map (fun t => some (.fz t)) ++ List.replicate (n - ts.length) none
def run (n : Nat) (s : Sx) (ts : List T) : Res T := fin (s (ent n ts))
section
variable {cl : Cl} {G : Ge}
theorem rel_start {d : Nat} {A0 : Al} {F0 H0 : Hp} {N : List Str} {ts : List T} {vs : List V} (ok : AOk A0 F0) (dep : ∀ g a, A0 g = some a → g.1 < d) (e : Ex F0 H0) (r : reps G A0 F0 ts vs) (hl : ts.length ≤ N.length) (hp : G.c.pin = none) : Rel G d A0 F0 H0 A0 (ent N.length ts) (L2.start N vs) F0 H0 where
  ok0 := ok
  dep0 := dep
  len := by
    unfold ent L2.start
    rw [List.length_append, List.length_append, List.length_map, List.length_map, List.length_replicate, List.length_replicate, r.length]
  agree := fun _ _ => rfl
  dep := fun g a z => Nat.le_of_lt (dep g a z)
  inj := ok.inj
  own := fun i a z => absurd (dep _ _ z) (Nat.lt_irrefl _)
  exF := Ex.refl _
  sub := e
  keep := Ex.refl _
  sep := fun _ h _ => h
  fz := fun i t h => by
    unfold ent at h
    by_cases hi : i < ts.length
    · rw [List.getElem?_append_left (by simpa using hi), List.getElem?_map] at h
      cases q : ts[i]? with
      | none => rw [q] at h; cases h
      | some u =>
        rw [q] at h
        cases h
        obtain ⟨v, hv, rv⟩ := r.get q
        refine ⟨v, ?_, rv⟩
        unfold L2.start
        rw [List.getElem?_append_left (by rw [List.length_map, r.length]; exact hi), List.getElem?_map, hv] <;> rfl
    · rw [List.getElem?_append_right (by simpa using hi), List.getElem?_replicate] at h
      split at h <;> cases h
  ol := fun i t h => by
    unfold ent at h
    by_cases hi : i < ts.length
    · rw [List.getElem?_append_left (by simpa using hi), List.getElem?_map] at h
      cases q : ts[i]? with
      | none => rw [q] at h; cases h
      | some u => rw [q] at h; cases h
    · rw [List.getElem?_append_right (by simpa using hi), List.getElem?_replicate] at h
      split at h <;> cases h
  oi := fun i c ns t h => by
    unfold ent at h
    by_cases hi : i < ts.length
    · rw [List.getElem?_append_left (by simpa using hi), List.getElem?_map] at h
      cases q : ts[i]? with
      | none => rw [q] at h; cases h
      | some u => rw [q] at h; cases h
    · rw [List.getElem?_append_right (by simpa using hi), List.getElem?_replicate] at h
      split at h <;> cases h
  pin := fun a z => by rw [hp] at z; cases z
/-- the body's reading at the entry -/
theorem body_ok {d : Nat} {A0 : Al} {F0 H : Hp} {N : List Str} {ts : List T} {vs : List V} {Q : VK} {E : XK} {t : TS} {s : Sx} (h : SS G d (fun cls dx _ H => E cls dx H) t s) (ok : AOk A0 F0) (dep : ∀ g a, A0 g = some a → g.1 < d) (e : Ex F0 H) (r : reps G A0 F0 ts vs) (hl : ts.length ≤ N.length) (hp : G.c.pin = none)
    (o : Out G A0 F0 H Q E (run N.length s ts)) : t { nx := fun _ H' => Q .non H', rt := Q } (L2.start N vs) H := by
  refine h A0 F0 H A0 (ent N.length ts) (L2.start N vs) F0 H _ (rel_start ok dep e r hl hp) ?_
  unfold run at o
  cases z : s (ent N.length ts) with
  | nx env => rw [z] at o; exact fun A σ F H R => o .non F H R.growF rfl
  | rt t => rw [z] at o; exact fun v F H g r => o v F H g r
  | er e env => rw [z] at o; exact fun A σ F H dx R x => o dx F H R.growF x
  | br env => rw [z] at o; exact o.elim
  | ct env => rw [z] at o; exact o.elim
  | stuck => rw [z] at o; exact o.elim
abbrev FnP (K : PySem.W.Frag) (x : Str) (st : Stmt) (f : Addr) (fd : FuncData) : Prop := FunD K x x (defArgs st) (defBody st) (defScope st) [] [] f fd
/-- the context of a def's body -/
abbrev XOf (P : Program) (w : World) (K : PySem.W.Frag) (mg : Str → Option Value) (base : Heap) (N : List Str) (qual : Str) (sc : Scope) (f : Addr) (cd : Value) (A : Around) (outer : List Env) (s : Shared) (H : Hp) (E : XK) : Cx := cxOf (L2.CX P w) P w K mg base N qual sc f cd A outer s H E
abbrev WOf (E : XK) : WX := fun cls dx _ H => E cls dx H
theorem tk_of {P : Program} {w : World} {K : PySem.W.Frag} {mg : Str → Option Value} {base : Heap} {N : List Str} {qual : Str} {sc : Scope} {f : Addr} {cd : Value} {A : Around} {outer : List Env} {s : Shared} {H : Hp} {E : XK} :
    Takes (XOf P w K mg base N qual sc f cd A outer s H E) (WOf E) := takes_of rfl rfl rfl rfl
theorem po_of {P : Program} {w : World} {K : PySem.W.Frag} {mg : Str → Option Value} {base : Heap} {N : List Str} {qual : Str} {sc : Scope} {f : Addr} {cd : Value} {A : Around} {outer : List Env} {s : Shared} {H : Hp} {E : XK} :
    PassesOwn (model P w) (XOf P w K mg base N qual sc f cd A outer s H E).A (XOf P w K mg base N qual sc f cd A outer s H E).env (XOf P w K mg base N qual sc f cd A outer s H E).xe := passes_of (X := XOf P w K mg base N qual sc f cd A outer s H E) rfl
theorem def_ok {P : Program} {w : World} {K : PySem.W.Frag} {mg : Str → Option Value} {base : Heap} {x qual : Str} {params : Arguments} {body : List Stmt} {scope : Scope} {f : Addr} {fd : FuncData} {N ps : List Str} {k n : Nat} {fT : Nat → List T → Res T} {sT : Nat → Sx}
    (F : FunD K x qual params body scope [] [] f fd) (S : FnScope N ps scope) (hn : n = ps.length) (hle : ps.length ≤ N.length) (p0 : cl.pin = none) (hf : ∀ d ts, fT d ts = run N.length (sT d) ts)
    (h : ∀ (d : Nat) (cdv : Value) (A : Around) (outer : List Env) (s : Shared) (H : Hp) (E : XK), Room k (A.deeper (envOfC qual scope s.heap.objs.size f cdv)) → DB cl (XOf P w K mg base N qual scope f cdv A outer s H E) d (WOf E) body (sT d)) :
    FnOk P w K mg base (L2.CX P w) (k + 1) f fd ps (spT ⟨K, cl⟩ n fT) := by
  subst hn
  refine F.ok S (fun vs H Q E h => h.1) (fun cdv A outer s H vs Q E hr hsp => ?_)
  obtain ⟨hl, d, A0, F0, ts, ok, dep, e, r, o⟩ := hsp
  obtain ⟨t, a1, a2⟩ := h d cdv A outer s H E hr
  refine ⟨t, a1, body_ok (N := N) a2 ok dep e r (by rw [← r.length, hl]; exact hle) p0 ?_⟩
  rw [← hf]
  exact o
/-- a def as its callers use it -/
structure Dok (cl : Cl) (P : Program) (w : World) (K : PySem.W.Frag) (mg : Str → Option Value) (base : Heap) (x : Str) (k n : Nat) (f : Nat → List T → Res T) : Prop where
  ex : ∃ fa fd ps, FnOk P w K mg base (L2.CX P w) k fa fd ps (spT ⟨K, cl⟩ n f) ∧ Binds K fd ps [] ∧ PySem.W.keepIn K (.ref fa) = true ∧ mg x = some (.ref fa)
theorem dok_of {P : Program} {w : World} {K : PySem.W.Frag} {mg : Str → Option Value} {base : Heap} {x : Str} {st : Stmt} {f : Addr} {fd : FuncData} {N ps : List Str} {k n : Nat} {fT : Nat → List T → Res T} {sT : Nat → Sx}
    (F : FnP K x st f fd) (S : FnScope N ps (defScope st)) (hn : n = ps.length) (hle : ps.length ≤ N.length) (p0 : cl.pin = none) (hm : mg x = some (.ref f)) (hf : ∀ d ts, fT d ts = run N.length (sT d) ts)
    (hb : ∀ (kV doc pm : Value) (an : Option Addr) (cdv ct : Value) (us : List Value), us.length = ps.length → bindArgs (PySem.W.fnOf x x (defArgs st) (defBody st) (defScope st) .none kV doc pm an cdv ct) ⟨us, []⟩ = pure (ps.zip us))
    (h : ∀ (d : Nat) (cdv : Value) (A : Around) (outer : List Env) (s : Shared) (H : Hp) (E : XK), Room k (A.deeper (envOfC x (defScope st) s.heap.objs.size f cdv)) → DB cl (XOf P w K mg base N x (defScope st) f cdv A outer s H E) d (WOf E) (defBody st) (sT d)) :
    Dok cl P w K mg base x (k + 1) n fT := ⟨f, fd, ps, def_ok F S hn hle p0 hf h, F.bindsN hb, F.kp, hm⟩
end
section
variable {cl : Cl} {X : Cx} {d k n : Nat} {W : WX} {e : Expr} {es : List Expr} {a : P.Ax} {x : Str} {f : Nat → List T → Res T} {p1 pos : Pos}
theorem de_d (D : Dok cl X.prog X.w X.K X.mg X.base x k n f) (hr : Room k X.A) (ha : DA cl X d W (e :: es) a) (hn : ∀ env xs, a env = .ok xs → xs.length = n) (tk : Takes X W := by first | exact tk_of | exact takes0) (hg : Gl X x := by rfl) (hdb : (x == ("__debug__" : Str)) = false := by decide)
    (he : starEach (e :: es) X.env = (false, eval e X.env) :: starEach es X.env := by rfl) (hpl : (backTo pos (starEach es X.env)).any (·.1) = false := by rfl) : DE cl X d W (.Call (.Name x p1) (e :: es) [] pos) (P.call (f (d + 1)) a) := by
  obtain ⟨fa, fd, ps, F, hb, hk, hm⟩ := D
  exact de_call F hr hm hk hb tk ha hn hg hdb he hpl
/-- a lot of turns -/
def fuel : Nat := 1000000000000
end
end Py

set_option Elab.async false
set_option linter.all false
set_option maxRecDepth 100000
set_option maxHeartbeats 4000000
namespace Py
open PySem L2 PySem.Spec PyProof.Rows Evl

/-! ### built-in calls, by values -/
def CRd (cl : Cl) (X : Cx) (v : Value) (f : List T → Option T) : Prop := ∃ r, CallR X v r ∧ ∀ A F H Q E ts vs, AOk A F → Ex F H → reps ⟨X.K, cl⟩ A F ts vs → Out ⟨X.K, cl⟩ A F H Q E (.of (f ts)) → r vs H Q
namespace B
def int : List T → Option T
  | [.int i] => some (.int i)
  | [.bl b] => some (.int (if b then 1 else 0))
  | _ => none
def len : List T → Option T
  | [.lst _ ts] => some (.int ts.length)
  | [.ro ts] => some (.int ts.length)
  | [.tup ts] => some (.int ts.length)
  | [.str s] => if lfit s.length = true then some (.int s.length) else none
  | _ => none
def abs : List T → Option T
  | [.int i] => some (.int (if i < 0 then -i else i))
  | _ => none
def min2 : List T → Option T
  | [.int i, .int j] => some (.int (if j < i then j else i))
  | _ => none
def max2 : List T → Option T
  | [.int i, .int j] => some (.int (if j > i then j else i))
  | _ => none
def list : List T → Option T
  | [t] => (match t.items with | some ts => some (.lst none ts) | none => none)
  | _ => none
def tuple : List T → Option T
  | [t] => (match t.items with | some ts => some (.tup ts) | none => none)
  | _ => none
def nums : List T → Option (List Int)
  | [] => some []
  | .int i :: ts => (match nums ts with | some l => some (i :: l) | none => none)
  | _ => none
def sum : List T → Option T
  | [.lst _ ts] => (match nums ts with | some l => some (.int l.sum) | none => none)
  | [.ro ts] => (match nums ts with | some l => some (.int l.sum) | none => none)
  | _ => none
def str : List T → Option T
  | [.int i] => if decide (i.natAbs.log2 < 1920) = true then some (.str (toString i)) else none
  | _ => none
end B
section
variable {cl : Cl} {X : Cx} {G : Ge} {A : Al} {F H : Hp} {Q : VK} {E : XK}
theorem reps1 {t : T} {vs : List V} (h : reps G A F [t] vs) : ∃ v, vs = [v] ∧ rep G A F t v := by
  obtain ⟨v, ws, rfl, r, e⟩ := h
  have e' : ws = [] := e
  subst e'
  exact ⟨v, rfl, r⟩
theorem reps2 {t u : T} {vs : List V} (h : reps G A F [t, u] vs) : ∃ v w, vs = [v, w] ∧ rep G A F t v ∧ rep G A F u w := by
  obtain ⟨v, ws, rfl, r, e⟩ := h
  obtain ⟨w, rfl, r2⟩ := reps1 e
  exact ⟨v, w, rfl, r, r2⟩
theorem ints_of : ∀ {ts : List T} {l : List Int} {vs : List V}, B.nums ts = some l → reps G A F ts vs → vs = l.map V.int
  | [], l, vs, h, r => by
    have e : vs = [] := r
    cases h
    exact e
  | t :: ts, l, vs, h, ⟨v, ws, e1, r1, r2⟩ => by
    cases t <;> (try cases h)
    rename_i i
    have h' : (match B.nums ts with | some l => some (i :: l) | none => none) = some l := h
    cases q : B.nums ts with
    | none => rw [q] at h'; cases h'
    | some l2 =>
      rw [q] at h'
      cases h'
      cases r1
      rw [e1, ints_of q r2] <;> rfl
theorem crd_int : CRd cl X (.type "int") B.int := ⟨_, call_int1, fun A F H Q E ts vs ok e r o => by
  unfold B.int at o
  split at o
  · obtain ⟨v, rfl, r1⟩ := reps1 r
    cases r1
    exact .inl ⟨_, rfl, Out.here o e rfl⟩
  · obtain ⟨v, rfl, r1⟩ := reps1 r
    cases r1
    exact .inr ⟨_, rfl, Out.here o e rfl⟩
  · exact o.elim⟩
theorem crd_len : CRd cl X (.builtin "len") B.len := ⟨_, CallR.or call_len_seq call_len_str, fun A F H Q E ts vs ok e r o => by
  unfold B.len at o
  split at o
  · obtain ⟨v, rfl, a, ws, rfl, h1, h2, h3⟩ := reps1 r
    refine .inl ⟨a, ws, rfl, .inl (SqL.of (e _ _ h1)), ?_⟩
    rw [h3.length]
    exact Out.here o e rfl
  · obtain ⟨v, rfl, a, ws, rfl, h1, h3⟩ := reps1 r
    refine .inl ⟨a, ws, rfl, .inl (ex_l e h1), ?_⟩
    rw [h3.length]
    exact Out.here o e rfl
  · obtain ⟨v, rfl, a, ws, rfl, h1, h3⟩ := reps1 r
    refine .inl ⟨a, ws, rfl, .inr (ex_t e h1), ?_⟩
    rw [h3.length]
    exact Out.here o e rfl
  · obtain ⟨v, rfl, r1⟩ := reps1 r
    cases r1
    rename_i s
    by_cases c : lfit s.length = true
    · rw [if_pos c] at o
      exact .inr ⟨s, rfl, of_decide_eq_true c, Out.here o e rfl⟩
    · rw [if_neg c] at o
      exact o.elim
  · exact o.elim⟩
theorem crd_abs : CRd cl X (.builtin "abs") B.abs := ⟨_, call_abs, fun A F H Q E ts vs ok e r o => by
  unfold B.abs at o
  split at o
  · obtain ⟨v, rfl, r1⟩ := reps1 r
    cases r1
    exact ⟨_, rfl, Out.here o e rfl⟩
  · exact o.elim⟩
theorem crd_min2 (hc : X.calm = true) : CRd cl X (.builtin "min") B.min2 := ⟨_, call_min2 hc, fun A F H Q E ts vs ok e r o => by
  unfold B.min2 at o
  split at o
  · obtain ⟨v, w, rfl, r1, r2⟩ := reps2 r
    cases r1; cases r2
    exact ⟨_, _, rfl, Out.here o e rfl⟩
  · exact o.elim⟩
theorem crd_max2 (hc : X.calm = true) : CRd cl X (.builtin "max") B.max2 := ⟨_, call_max2 hc, fun A F H Q E ts vs ok e r o => by
  unfold B.max2 at o
  split at o
  · obtain ⟨v, w, rfl, r1, r2⟩ := reps2 r
    cases r1; cases r2
    exact ⟨_, _, rfl, Out.here o e rfl⟩
  · exact o.elim⟩
theorem crd_list : CRd cl X (.type "list") B.list := ⟨_, call_list_of, fun A F H Q E ts vs ok e r o => by
  unfold B.list at o
  split at o
  · rename_i t
    obtain ⟨v, rfl, r1⟩ := reps1 r
    cases z : t.items with
    | none => simp only [z] at o; exact o.elim
    | some us =>
      simp only [z] at o
      obtain ⟨a, ws, rfl, s, r2⟩ := items_of r1 z
      exact ⟨a, ws, rfl, sq_mono e s, Out.lst o ok e r2⟩
  · exact o.elim⟩
theorem crd_tuple : CRd cl X (.type "tuple") B.tuple := ⟨_, call_tuple_of, fun A F H Q E ts vs ok e r o => by
  unfold B.tuple at o
  split at o
  · rename_i t
    obtain ⟨v, rfl, r1⟩ := reps1 r
    cases z : t.items with
    | none => simp only [z] at o; exact o.elim
    | some us =>
      simp only [z] at o
      obtain ⟨a, ws, rfl, s, r2⟩ := items_of r1 z
      refine ⟨a, ws, rfl, ?_⟩
      rcases s with s | s
      · exact .inl ⟨ex_l e s, Out.tup o e r2⟩
      · exact .inr ⟨ex_t e s, Out.here o e ⟨a, ws, rfl, s, r2⟩⟩
  · exact o.elim⟩
theorem crd_sum (hc : X.calm = true) : CRd cl X (.builtin "sum") B.sum := ⟨_, cr_sum hc, fun A F H Q E ts vs ok e r o => by
  unfold B.sum at o
  split at o
  · rename_i g us
    obtain ⟨v, rfl, a, ws, rfl, h1, h2, h3⟩ := reps1 r
    cases z : B.nums us with
    | none => simp only [z] at o; exact o.elim
    | some l =>
      simp only [z] at o
      have ew := ints_of z h3
      subst ew
      exact ⟨a, l, rfl, SqL.of (e _ _ h1), Out.here o e rfl⟩
  · rename_i us
    obtain ⟨v, rfl, a, ws, rfl, h1, h3⟩ := reps1 r
    cases z : B.nums us with
    | none => simp only [z] at o; exact o.elim
    | some l =>
      simp only [z] at o
      have ew := ints_of z h3
      subst ew
      exact ⟨a, l, rfl, ex_l e h1, Out.here o e rfl⟩
  · exact o.elim⟩
theorem crd_str : CRd cl X (.type "str") B.str := ⟨_, call_str_int, fun A F H Q E ts vs ok e r o => by
  unfold B.str at o
  split at o
  · rename_i i
    obtain ⟨v, rfl, r1⟩ := reps1 r
    cases r1
    by_cases c : decide (i.natAbs.log2 < 1920) = true
    · rw [if_pos c] at o
      exact ⟨i, rfl, of_decide_eq_true c, Out.here o e rfl⟩
    · rw [if_neg c] at o
      exact o.elim
  · exact o.elim⟩
variable {d : Nat} {W : WX} {e : Expr} {es : List Expr} {a : P.Ax} {f : List T → Option T} {x : Str} {p1 pos : Pos}
theorem se_cb {r : List V → Hp → VK → Prop} {tl : TA} (hr : ∀ A F H Q E ts vs, AOk A F → Ex F H → reps G A F ts vs → Out G A F H Q E (.of (f ts)) → r vs H Q) (hl : SA G d W tl a) : SE G d W (tCB r tl) (P.call (fun ts => .of (f ts)) a) := fun A env σ F H Q R e o =>
  hl A env σ F H _ R e (Outg.bind o fun xs vs F1 H1 g1 rs o1 => hr A F1 H1 Q _ xs vs (R.ok.mono g1.ex) g1.sub rs o1)
theorem de_b {id : String} (hr : CRd cl X (.builtin id) f) (hm : X.mg x = none) (hv : bootBuiltins x = some (.builtin id)) (ha : DA cl X d W (e :: es) a) (hg : Gl X x := by rfl) (hn : x ≠ "__name__" := by decide) (hdb : (x == ("__debug__" : Str)) = false := by decide)
    (he : starEach (e :: es) X.env = (false, eval e X.env) :: starEach es X.env := by rfl) (hpl : (backTo pos (starEach es X.env)).any (·.1) = false := by rfl) : DE cl X d W (.Call (.Name x p1) (e :: es) [] pos) (P.call (fun ts => .of (f ts)) a) := by
  obtain ⟨r, a1, a2⟩ := hr
  obtain ⟨t, c1, c2⟩ := ha
  exact ⟨_, pe_callB a1 hg hm hv c1 hn hdb he hpl, se_cb a2 c2⟩
theorem de_ty {id : String} (hr : CRd cl X (.type id) f) (hm : X.mg x = none) (hv : bootBuiltins x = some (.type id)) (ha : DA cl X d W (e :: es) a) (hg : Gl X x := by rfl) (hn : x ≠ "__name__" := by decide) (hdb : (x == ("__debug__" : Str)) = false := by decide)
    (he : starEach (e :: es) X.env = (false, eval e X.env) :: starEach es X.env := by rfl) (hpl : (backTo pos (starEach es X.env)).any (·.1) = false := by rfl) : DE cl X d W (.Call (.Name x p1) (e :: es) [] pos) (P.call (fun ts => .of (f ts)) a) := by
  obtain ⟨r, a1, a2⟩ := hr
  obtain ⟨t, c1, c2⟩ := ha
  exact ⟨_, pe_callTy a1 hg hm hv c1 hn hdb he hpl, se_cb a2 c2⟩
end

/-! ### slices -/
def P.opart (p : Option P.Ex1) : Fv → Res (Option Int) := match p with
  | none => fun _ => .ok none
  | some p => fun env => (p env).bind fun
    | .int i => .ok (some i)
    | _ => .stuck
def T.cut (t : T) (lo hi : Option Int) : Option T := match t with
  | .lst _ ts => some (.lst none ((ts.drop (HT.sIx ts.length 0 lo)).take (HT.sIx ts.length ts.length hi - HT.sIx ts.length 0 lo)))
  | .ro ts => some (.lst none ((ts.drop (HT.sIx ts.length 0 lo)).take (HT.sIx ts.length ts.length hi - HT.sIx ts.length 0 lo)))
  | _ => none
def P.cut (p : P.Ex1) (lo hi : Option P.Ex1) : P.Ex1 := fun env => (p env).bind fun t => (P.opart lo env).bind fun l => (P.opart hi env).bind fun u => .of (t.cut l u)
section
variable {cl : Cl} {X : Cx} {G : Ge} {d : Nat} {W : WX} {e e2 : Expr} {p q : P.Ex1} {te : TE} {pos p2 : Pos} {lo hi : Option Expr} {pl ph : Option P.Ex1}
def SO (G : Ge) (d : Nat) (W : WX) (to : TO) (p : Option P.Ex1) : Prop :=
  ∀ A env σ F H Q, RE G d A env σ F → Ex F H → Outg G A F H (fun _ (a b : Option Int) => b = a) Q (WE W σ) (P.opart p env) → to σ H Q
structure DO (cl : Cl) (X : Cx) (d : Nat) (W : WX) (e : Option Expr) (p : Option P.Ex1) : Prop where
  ex : ∃ to, PO X e to ∧ SO ⟨X.K, cl⟩ d W to p
theorem do_none : DO cl X d W none none := ⟨_, po_none, fun A env σ F H Q R e o => o none F H (Grow.refl e) rfl⟩
theorem do_some (h : DE cl X d W e p) : DO cl X d W (some e) (some p) := by
  obtain ⟨t, a1, a2⟩ := h
  refine ⟨_, po_some a1, fun A env σ F H Q R e o => a2 A env σ F H _ R e (Outg.bind o fun x v F1 H1 g1 rx o1 => ?_)⟩
  cases x <;> (try exact o1.elim)
  cases rx
  exact ⟨_, rfl, o1 _ F1 H1 (Grow.refl g1.sub) rfl⟩
theorem de_cut (h : DE cl X d W e p) (hl : DO cl X d W lo pl) (hh : DO cl X d W hi ph) : DE cl X d W (.Subscript e (.Slice lo hi none p2) pos) (P.cut p pl ph) := by
  obtain ⟨t, a1, a2⟩ := h
  obtain ⟨t1, b1, b2⟩ := hl
  obtain ⟨t2, c1, c2⟩ := hh
  refine ⟨_, pe_slice sl_list a1 b1 c1, fun A env σ F H Q R e o => a2 A env σ F H _ R e (Outg.bind o fun x v F1 H1 g1 rx o1 =>
    b2 A env σ F1 H1 _ (R.mono g1.ex) g1.sub (Outg.bind o1 fun l l' F2 H2 g2 el o2 => ?_))⟩
  subst el
  refine c2 A env σ F2 H2 _ ((R.mono g1.ex).mono g2.ex) g2.sub (Outg.bind o2 fun u u' F3 H3 g3 eu o3 => ?_)
  subst eu
  have R3 := ((R.mono g1.ex).mono g2.ex).mono g3.ex
  have rx3 := (rx.mono g2.ex).mono g3.ex
  cases x <;> (try exact o3.elim)
  · obtain ⟨aa, vs, rfl, h1, h2, h3⟩ := rx3
    refine ⟨aa, vs, rfl, SqL.of (g3.sub _ _ h1), ?_⟩
    refine Out.lst o3 R3.ok g3.sub ?_
    unfold cutV
    rw [h3.length]
    exact (h3.drop _).take _
  · obtain ⟨aa, vs, rfl, h1, h3⟩ := rx3
    refine ⟨aa, vs, rfl, ex_l g3.sub h1, ?_⟩
    refine Out.lst o3 R3.ok g3.sub ?_
    unfold cutV
    rw [h3.length]
    exact (h3.drop _).take _
end
/-! ### comprehensions of one for -/
def wipeE (env : Fv) : List Nat → Fv
  | [] => env
  | v :: vs => (wipeE env vs).set v none
namespace P
/-- one turn an item; nothing may be raised within -/
def turnsC (tg : T → Fv → Option Fv) (t : Bx) (p : Ex1) (env : Fv) : List T → Res (List T)
  | [] => .ok []
  | x :: xs => match tg x env with
    | some env1 => (match t env1 with
      | .ok b => if b = true then (match p env1 with
          | .ok y => (turnsC tg t p env xs).bind fun ys => .ok (y :: ys)
          | _ => .stuck) else turnsC tg t p env xs
      | _ => .stuck)
    | none => .stuck
def yes : Bx := fun _ => .ok true
def comp (own : List Nat) (tg : T → Fv → Option Fv) (pi : Fv → Res (List T)) (t : Bx) (p : Ex1) : Fv → Res (List T) := fun env => (pi env).bind fun xs => if lfit xs.length = true then turnsC tg t p (wipeE env own) xs else .stuck
def lc (own : List Nat) (tg : T → Fv → Option Fv) (pi : Fv → Res (List T)) (t : Bx) (p : Ex1) : Ex1 := fun env => (comp own tg pi t p env).bind fun ys => .ok (.lst none ys)
end P
section
variable {G : Ge} {d : Nat} {W : WX} {A : Al} {F H F1 H1 : Hp} {env : Fv} {σ : L2.St} {te : TE} {p : P.Ex1} {tt : TT} {b : P.Bx}
abbrev W0 : WX := fun _ _ _ _ => False
theorem wipe_get (σ : L2.St) : ∀ (vs : List Nat) (j : Nat), (wipe σ vs)[j]? = if j ∈ vs ∧ j < σ.length then some none else σ[j]?
  | [], j => by rw [if_neg (by simp)] <;> rfl
  | v :: vs, j => by
    show ((wipe σ vs).set v none)[j]? = _
    by_cases h : v = j
    · subst h
      by_cases hl : v < σ.length
      · rw [List.getElem?_set_self (by rw [wipe_length]; exact hl), if_pos ⟨List.mem_cons_self, hl⟩]
      · rw [List.getElem?_eq_none (by rw [List.length_set, wipe_length]; omega), if_neg (fun z => hl z.2), List.getElem?_eq_none (by omega)]
    · rw [List.getElem?_set_ne h, wipe_get σ vs j]
      have e : (j ∈ v :: vs ∧ j < σ.length) ↔ (j ∈ vs ∧ j < σ.length) := by
        rw [List.mem_cons]
        exact ⟨fun ⟨z, y⟩ => ⟨z.resolve_left (fun q => h q.symm), y⟩, fun ⟨z, y⟩ => ⟨.inr z, y⟩⟩
      by_cases c : j ∈ vs ∧ j < σ.length
      · rw [if_pos c, if_pos (e.mpr c)]
      · rw [if_neg c, if_neg (fun z => c (e.mp z))]
theorem wipe_eq {σ2 : L2.St} {vs : List Nat} (hl : σ2.length = σ.length) (h : ∀ j, j ∉ vs → σ2[j]? = (wipe σ vs)[j]?) : wipe σ2 vs = wipe σ vs := by
  refine List.ext_getElem? fun j => ?_
  rw [wipe_get, wipe_get, hl]
  by_cases c : j ∈ vs ∧ j < σ.length
  · rw [if_pos c, if_pos c]
  · rw [if_neg c, if_neg c]
    by_cases hj : j ∈ vs
    · have hlt : ¬ j < σ.length := fun z => c ⟨hj, z⟩
      rw [List.getElem?_eq_none (by omega), List.getElem?_eq_none (by omega)]
    · rw [h j hj, wipe_get, if_neg c]
theorem wipeE_length (env : Fv) : ∀ vs : List Nat, (wipeE env vs).length = env.length
  | [] => rfl
  | v :: vs => by
    show ((wipeE env vs).set v none).length = _
    rw [List.length_set, wipeE_length env vs]
theorem wipeE_get {env : Fv} : ∀ {vs : List Nat} {j : Nat} {s : Sl}, (wipeE env vs)[j]? = some (some s) → env[j]? = some (some s) ∧ j ∉ vs
  | [], j, s, h => ⟨h, by simp⟩
  | v :: vs, j, s, h => by
    have h' : ((wipeE env vs).set v none)[j]? = some (some s) := h
    by_cases c : v = j
    · subst c
      rw [List.getElem?_set] at h'
      rw [if_pos rfl] at h'
      split at h' <;> cases h'
    · rw [List.getElem?_set_ne c] at h'
      obtain ⟨a, b⟩ := wipeE_get h'
      exact ⟨a, by rw [List.mem_cons, not_or]; exact ⟨fun q => c q.symm, b⟩⟩
theorem rd_wipe {vs : List Nat} {j : Nat} {t : T} (h : rd d j (wipeE env vs) = some t) : rd d j env = some t ∧ j ∉ vs := by
  unfold rd at h ⊢
  split at h
  · rename_i u e
    obtain ⟨a, b⟩ := wipeE_get e
    rw [a]
    exact ⟨h, b⟩
  · rename_i u e
    obtain ⟨a, b⟩ := wipeE_get e
    rw [a]
    exact ⟨h, b⟩
  · rename_i c n u e
    obtain ⟨a, b⟩ := wipeE_get e
    rw [a]
    exact ⟨h, b⟩
  · cases h
theorem RE.wipe (R : RE G d A env σ F) (vs : List Nat) : RE G d A (wipeE env vs) (L2.wipe σ vs) F where
  ok := R.ok
  len := by rw [wipeE_length, wipe_length]; exact R.len
  dep := R.dep
  slots := fun i t h => by
    obtain ⟨a, b⟩ := rd_wipe h
    obtain ⟨v, h1, h2⟩ := R.slots i t a
    refine ⟨v, ?_, h2⟩
    rw [wipe_get, if_neg (fun z => b z.1)]
    exact h1
/-- a target within a comprehension -/
def SC (G : Ge) (d : Nat) (own : List Nat) (g : TG) (tg : T → Fv → Option Fv) : Prop :=
  ∀ A env σ F H t v env1 (Q : L2.St → Hp → Prop), RE G d A env σ F → Ex F H → rep G A F t v → tg t env = some env1 → (∀ σ', RE G d A env1 σ' F → σ'.length = σ.length → (∀ j, j ∉ own → σ'[j]? = σ[j]?) → Q σ' H) → g v σ H Q
theorem sc_name {own : List Nat} {i : Nat} (hi : i ∈ own) : SC G d own (gName i) (S.tName i) := fun A env σ F H t v env1 Q R eH r e k => by
  unfold S.tName at e
  by_cases c : i < env.length
  · rw [if_pos c] at e
    cases e
    refine k _ ⟨R.ok, by rw [List.length_set, List.length_set]; exact R.len, R.dep, fun j u h => ?_⟩ (by rw [List.length_set]) fun j hj => ?_
    · by_cases q : i = j
      · subst q
        unfold rd at h
        rw [List.getElem?_set_self c] at h
        cases h
        exact ⟨v, List.getElem?_set_self (by rw [← R.len]; exact c), r⟩
      · have h2 : rd d j env = some u := by
          unfold rd at h ⊢
          rw [List.getElem?_set_ne q] at h
          exact h
        obtain ⟨w, h3, h4⟩ := R.slots j u h2
        exact ⟨w, by rw [List.getElem?_set_ne q]; exact h3, h4⟩
    · rw [List.getElem?_set_ne (fun q => hj (by rw [← q]; exact hi))]
  · rw [if_neg c] at e
    cases e
def SCs (G : Ge) (d : Nat) (own : List Nat) (g : TGs) (gs : List (T → Fv → Option Fv)) : Prop :=
  ∀ A env σ F H ts vs env1 (Q : L2.St → Hp → Prop), RE G d A env σ F → Ex F H → reps G A F ts vs → S.tNames gs ts env = some env1 → (∀ σ', RE G d A env1 σ' F → σ'.length = σ.length → (∀ j, j ∉ own → σ'[j]? = σ[j]?) → Q σ' H) → g vs σ H Q
theorem scs_nil {own : List Nat} : SCs G d own gNil [] := fun A env σ F H ts vs env1 Q R eH r e k => by
  cases ts with
  | nil =>
    have r' : vs = [] := r
    cases e
    exact ⟨r', k σ R rfl fun _ _ => rfl⟩
  | cons _ _ => cases e
theorem scs_cons {own : List Nat} {g : TG} {gg : TGs} {tg : T → Fv → Option Fv} {tgs : List (T → Fv → Option Fv)} (h1 : SC G d own g tg) (h2 : SCs G d own gg tgs) : SCs G d own (gCons g gg) (tg :: tgs) := fun A env σ F H ts vs env1 Q R eH r e k => by
  cases ts with
  | nil => cases e
  | cons t ts =>
    obtain ⟨v, ws, rfl, r1, r2⟩ := r
    obtain ⟨env2, e1, e2⟩ := Option.bind_eq_some_iff.mp (show (tg t env).bind (fun env => S.tNames tgs ts env) = some env1 from e)
    exact ⟨v, ws, rfl, h1 A env σ F H t v env2 _ R eH r1 e1 fun σ' R' h3 h4 => h2 A env2 σ' F H ts ws env1 Q R' eH r2 e2 fun σ2 R2 k3 k4 => k σ2 R2 (k3.trans h3) fun j hj => (k4 j hj).trans (h4 j hj)⟩
theorem sc_tup {own : List Nat} {n : Nat} {gg : TGs} {tgs : List (T → Fv → Option Fv)} (h : SCs G d own gg tgs) (hn : n = tgs.length) : SC G d own (gTup G.K n gg) (S.tTup tgs) := fun A env σ F H t v env1 Q R eH r e k => by
  cases t <;> (try cases e)
  rename_i ts
  obtain ⟨a, vs, rfl, h1, h2⟩ := r
  have e' : S.tNames tgs ts env = some env1 := e
  have hlen : ∀ (tgs : List (T → Fv → Option Fv)) (ts : List T) (env : Fv), S.tNames tgs ts env = some env1 → ts.length = tgs.length := by
    intro tgs
    induction tgs with
    | nil =>
      intro ts env e
      cases ts with
      | nil => rfl
      | cons _ _ => cases e
    | cons tg tgs ih =>
      intro ts env e
      cases ts with
      | nil => cases e
      | cons t ts =>
        obtain ⟨env2, e1, e2⟩ := Option.bind_eq_some_iff.mp (show (tg t env).bind (fun env => S.tNames tgs ts env) = some env1 from e)
        rw [List.length_cons, List.length_cons, ih ts env2 e2]
  exact ⟨a, vs, rfl, ex_t eH h1, by rw [h2.length, hn]; exact hlen tgs ts env e', h A env σ F H ts vs env1 Q R eH h2 e' k⟩
/-- where a comprehension stands -/
def CompAt (G : Ge) (A : Al) (F1 H1 : Hp) (tg : T → Fv → Option Fv) (b : P.Bx) (p : P.Ex1) (env : Fv) (xs all : List T) (Dl : Addr) (k : Nat) (H : Hp) : Prop :=
  ∃ F acc done rest, Grow F1 H1 F H ∧ F Dl = none ∧ H Dl = some (.lst acc) ∧ reps G A F done acc ∧ done.length ≤ k ∧ P.turnsC tg b p env (xs.drop k) = .ok rest ∧ all = done ++ rest
theorem sn_lc {wi : TI} {g : TG} {pi : Fv → Res (List T)} {own : List Nat} {tg : T → Fv → Option Fv} (hi : SI G d W wi pi) (hg : SC G d own g tg) (ht : ST G d W0 tt b) (he : SE G d W0 te p) : SN G d W (tLc wi g tt te own) (P.comp own tg pi b p) := fun A env σ F H Q R e o => by
  refine hi A env σ F H _ R e ?_
  have o' : Outg G A F H (fun F1 (ts : List T) (b : Addr × List V) => reps G A F1 ts b.2 ∧ F1 b.1 = none) (fun b H1 => H b.1 = none → H1 b.1 = some (.lst b.2) → Q (.ref b.1) H1) (WE W σ) ((pi env).bind fun xs => if lfit xs.length = true then P.turnsC tg b p (wipeE env own) xs else .stuck) := o
  cases z : pi env with
  | er e => rw [z] at o'; exact o'
  | stuck => rw [z] at o'; exact o'
  | ok xs =>
    rw [z] at o'
    intro J F1 H1 g1 hJ Dl hD
    have o1 : Outg G A F H (fun F1 (ts : List T) (b : Addr × List V) => reps G A F1 ts b.2 ∧ F1 b.1 = none) (fun b H1 => H b.1 = none → H1 b.1 = some (.lst b.2) → Q (.ref b.1) H1) (WE W σ) (if lfit xs.length = true then P.turnsC tg b p (wipeE env own) xs else .stuck) := o'
    obtain ⟨hz, o2⟩ := Outg.if_ o1
    have hz' : xs.length ≤ sizeLine := of_decide_eq_true hz
    cases y : P.turnsC tg b p (wipeE env own) xs with
    | er e =>
      -- nothing is raised
      exfalso
      have nx : ∀ xs, P.turnsC tg b p (wipeE env own) xs ≠ .er e := by
        intro xs
        induction xs with
        | nil => intro h; cases h
        | cons x xs ih =>
          intro h
          have h' : (match tg x (wipeE env own) with
            | some env1 => (match b env1 with
              | .ok b => if b = true then (match p env1 with
                  | .ok y => (P.turnsC tg ‹P.Bx› p (wipeE env own) xs).bind fun ys => .ok (y :: ys)
                  | _ => .stuck) else P.turnsC tg ‹P.Bx› p (wipeE env own) xs
              | _ => .stuck)
            | none => .stuck) = Res.er e := h
          split at h'
          · split at h'
            · split at h'
              · split at h'
                · cases q : P.turnsC tg b p (wipeE env own) xs with
                  | ok ys => rw [q] at h'; cases h'
                  | er e2 => rw [q] at h'; cases h'; exact ih q
                  | stuck => rw [q] at h'; cases h'
                · cases h'
              · exact ih h'
            · cases h'
          · cases h'
      exact nx xs y
    | stuck => rw [y] at o2; exact o2.elim
    | ok all =>
      rw [y] at o2
      have hF1 : F1 Dl = none := none_of_ex g1.sub hD
      have hH : H Dl = none := none_of_ex g1.keep hD
      refine ⟨fun k m H' => m = xs.length - k ∧ k ≤ xs.length ∧ CompAt G A F1 H1 tg b p (wipeE env own) xs all Dl k H', ⟨xs.length, by simp, Nat.zero_le _, F1, [], [], all, Grow.junk g1.sub hD, hF1, upd_same, rfl, Nat.le_refl _, y, rfl⟩, ?_⟩
      rintro k m H' ⟨rfl, hk, Fk, acc, done, rest, gk, hFk, hHk, rk, lk, tk, ek⟩
      have exk : Ex F1 Fk := gk.ex
      by_cases hlt : k < xs.length
      · refine .inr ⟨hJ.go k H' (exk.trans gk.sub) hlt, CompAt G A F1 H1 tg b p (wipeE env own) xs all Dl (k + 1), fun H'' p' => ⟨xs.length - (k + 1), by omega, rfl, hlt, p'⟩, fun x H2 yl => ?_⟩
        have hx : xs[k]? = some xs[k] := List.getElem?_eq_getElem hlt
        obtain ⟨F2, g2, rx⟩ := hJ.yld k Fk H' x H2 _ exk gk.sub hx yl
        rw [List.drop_eq_getElem_cons hlt] at tk
        have tk' : (match tg xs[k] (wipeE env own) with
          | some env1 => (match b env1 with
            | .ok bb => if bb = true then (match p env1 with
                | .ok y => (P.turnsC tg b p (wipeE env own) (xs.drop (k + 1))).bind fun ys => .ok (y :: ys)
                | _ => .stuck) else P.turnsC tg b p (wipeE env own) (xs.drop (k + 1))
            | _ => .stuck)
          | none => .stuck) = Res.ok rest := tk
        cases q : tg xs[k] (wipeE env own) with
        | none => rw [q] at tk'; cases tk'
        | some env1 =>
          simp only [q] at tk'
          have Rw : RE G d A (wipeE env own) (L2.wipe σ own) F2 := ((R.wipe own).mono (g1.ex.trans (exk.trans g2.ex)))
          refine hg A _ _ F2 H2 _ x env1 _ Rw g2.sub rx q fun σ' R' hl hw => ⟨wipe_eq (by rw [hl, wipe_length]) hw, ?_⟩
          refine ht A env1 σ' F2 H2 _ R' g2.sub ?_
          cases q2 : b env1 with
          | er e => simp only [q2] at tk'; cases tk'
          | stuck => simp only [q2] at tk'; cases tk'
          | ok bb =>
            simp only [q2] at tk'
            intro bv F3 H3 g3 eb
            subst eb
            have gA : Grow F1 H1 F3 H3 := (gk.trans g2).trans g3
            have hF3 : F3 Dl = none := (g2.trans g3).sep Dl hFk (by rw [hHk]; exact fun y => nomatch y)
            have hH3 : H3 Dl = some (.lst acc) := g3.keep _ _ (g2.keep _ _ hHk)
            cases bb with
            | false =>
              exact ⟨F3, acc, done, rest, gA, hF3, hH3, rk.mono (g2.ex.trans g3.ex), Nat.le_succ_of_le lk, tk', ek⟩
            | true =>
              show te σ' H3 _
              have tk2 : (match p env1 with
                | .ok y => (P.turnsC tg b p (wipeE env own) (xs.drop (k + 1))).bind fun ys => .ok (y :: ys)
                | _ => .stuck) = Res.ok rest := tk'
              refine he A env1 σ' F3 H3 _ (R'.mono g3.ex) g3.sub ?_
              cases q3 : p env1 with
              | er e => simp only [q3] at tk2; cases tk2
              | stuck => simp only [q3] at tk2; cases tk2
              | ok yt =>
                simp only [q3] at tk2
                intro yv F4 H4 g4 ry
                cases q4 : P.turnsC tg b p (wipeE env own) (xs.drop (k + 1)) with
                | er e => rw [q4] at tk2; cases tk2
                | stuck => rw [q4] at tk2; cases tk2
                | ok ys =>
                  rw [q4] at tk2
                  cases tk2
                  have hF4 : F4 Dl = none := g4.sep Dl hF3 (by rw [hH3]; exact fun y => nomatch y)
                  have hH4 : H4 Dl = some (.lst acc) := g4.keep _ _ hH3
                  have gB := gA.trans g4
                  have rk4 := (rk.mono (g2.ex.trans g3.ex)).mono g4.ex
                  refine ⟨acc, hH4, ?_, F4, acc ++ [yv], done ++ [yt], ys, ⟨gB.ex, fun a o2 h2 => ?_, fun a o2 h2 => ?_, gB.sep⟩, hF4, upd_same, rk4.append (reps.one ry), ?_, q4, ?_⟩
                  · have l := rk4.length
                    rw [l]
                    omega
                  · rw [upd_ne (fun c => by rw [c, hF4] at h2; cases h2)]
                    exact gB.sub a o2 h2
                  · rw [upd_ne (fun c => by rw [c, hD] at h2; cases h2)]
                    exact gB.keep a o2 h2
                  · rw [List.length_append, List.length_singleton]
                    omega
                  · rw [ek, List.append_assoc] <;> rfl
      · have ek2 : k = xs.length := by omega
        subst ek2
        refine .inl ⟨hJ.stop _ H' (exk.trans gk.sub) (Nat.le_refl _), ?_⟩
        rw [List.drop_eq_nil_of_le (Nat.le_refl _)] at tk
        cases tk
        rw [List.append_nil] at ek
        subst ek
        exact o2 (Dl, acc) Fk H' (g1.trans gk) ⟨rk, hFk⟩ hH hHk
end
end Py

set_option Elab.async false
set_option linter.all false
set_option maxRecDepth 100000
set_option maxHeartbeats 4000000
namespace Py
open PySem L2 PySem.Spec PyProof.Rows Evl

/-! ### the readings that say just what is asked -/
def cE (G : Ge) (d : Nat) (W : WX) (p : P.Ex1) : TE := fun σ H Q => ∃ A env F, RE G d A env σ F ∧ Ex F H ∧ Out G A F H Q (WE W σ) (p env)
def cT (G : Ge) (d : Nat) (W : WX) (p : P.Bx) : TT := fun σ H Q => ∃ A env F, RE G d A env σ F ∧ Ex F H ∧ OutB G A F H Q (WE W σ) (p env)
def cC (G : Ge) (d : Nat) (own : List Nat) (tg : T → Fv → Option Fv) : TG := fun v σ H Q => ∃ A env F t env1, RE G d A env σ F ∧ Ex F H ∧ rep G A F t v ∧ tg t env = some env1 ∧ (∀ σ', RE G d A env1 σ' F → σ'.length = σ.length → (∀ j, j ∉ own → σ'[j]? = σ[j]?) → Q σ' H)
def cI (G : Ge) (d : Nat) (W : WX) (p : Fv → Res (List T)) : TI := fun σ H Q => ∃ A env F, RE G d A env σ F ∧ Ex F H ∧ Outg G A F H (ItIs G A) Q (WE W σ) (p env)
section
variable {G : Ge} {d : Nat} {W : WX} {p : P.Ex1} {b : P.Bx} {own : List Nat} {tg : T → Fv → Option Fv} {pi : Fv → Res (List T)}
theorem se_cE : SE G d W (cE G d W p) p := fun A env σ F H Q R e o => ⟨A, env, F, R, e, o⟩
theorem st_cT : ST G d W (cT G d W b) b := fun A env σ F H Q R e o => ⟨A, env, F, R, e, o⟩
theorem sc_cC : SC G d own (cC G d own tg) tg := fun A env σ F H t v env1 Q R e r q k => ⟨A, env, F, t, env1, R, e, r, q, k⟩
theorem si_cI : SI G d W (cI G d W pi) pi := fun A env σ F H Q R e o => ⟨A, env, F, R, e, o⟩
end
structure DC (cl : Cl) (X : Cx) (d : Nat) (own : List Nat) (e : Expr) (tg : T → Fv → Option Fv) : Prop where
  ex : ∃ g, PG X e g ∧ SC ⟨X.K, cl⟩ d own g tg
structure DCs (cl : Cl) (X : Cx) (d : Nat) (own : List Nat) (e : List Expr) (tg : List (T → Fv → Option Fv)) : Prop where
  ex : ∃ g, PGs X e g ∧ SCs ⟨X.K, cl⟩ d own g tg
structure DTs (cl : Cl) (X : Cx) (d : Nat) (W : WX) (e : List Expr) (p : P.Bx) : Prop where
  ex : ∃ te, PTs X e te ∧ ST ⟨X.K, cl⟩ d W te p
section
variable {cl : Cl} {X : Cx} {d : Nat} {W : WX} {e e1 : Expr} {es : List Expr} {p : P.Ex1} {b : P.Bx} {own : List Nat} {tg : T → Fv → Option Fv} {tgs : List (T → Fv → Option Fv)} {pi : Fv → Res (List T)} {pos : Pos}
theorem DE.pe (h : DE cl X d W e p) : PE X e (cE ⟨X.K, cl⟩ d W p) := by
  obtain ⟨te, a1, a2⟩ := h
  exact ⟨fun pins s σ H Q I ⟨A, env, F, R, e, o⟩ => a1.run pins s σ H Q I (a2 A env σ F H Q R e o)⟩
theorem DTs.pt (h : DTs cl X d W es b) : PTs X es (cT ⟨X.K, cl⟩ d W b) := by
  obtain ⟨te, a1, a2⟩ := h
  exact ⟨fun pins s σ H Q I ⟨A, env, F, R, e, o⟩ => a1.run pins s σ H Q I (a2 A env σ F H Q R e o)⟩
theorem DC.pg (h : DC cl X d own e tg) : PG X e (cC ⟨X.K, cl⟩ d own tg) := by
  obtain ⟨te, a1, a2⟩ := h
  exact ⟨fun pins s σ H v u Q I r ⟨A, env, F, t, env1, R, e, r2, q, k⟩ => a1.run pins s σ H v u Q I r (a2 A env σ F H t v env1 Q R e r2 q k)⟩
theorem DI.pI {t : Expr} (h : DI cl X d W t e pi) : PI X t e (cI ⟨X.K, cl⟩ d W pi) := by
  obtain ⟨te, a1, a2⟩ := h
  exact ⟨fun pins s σ H Q I ⟨A, env, F, R, e, o⟩ => a1.run pins s σ H Q I (a2 A env σ F H Q R e o)⟩
theorem dts_nil : DTs cl X d W [] P.yes := ⟨_, pts_nil, fun A env σ F H Q R e o => OutB.here o e⟩
theorem dts_one (h : DT cl X d W e b) : DTs cl X d W [e] b := by
  obtain ⟨te, a1, a2⟩ := h
  exact ⟨_, pts_one a1, a2⟩
theorem dc_name {i : Nat} {x : Str} (ho : i ∈ own) (hN : X.N.Nodup) (hi : X.N[i]? = some x := by rfl) (hx : Loc X.env.scope x := by first | exact Or.inl rfl | exact Or.inr rfl) (hf : X.fn x = true ∨ X.env.scope.names.lookup x = some .local := by first | exact .inl rfl | exact .inr rfl) : DC cl X d own (.Name x pos) (S.tName i) := ⟨_, pg_name hN hi hx hf, sc_name ho⟩
theorem dcs_nil : DCs cl X d own [] [] := ⟨_, pgs_nil, scs_nil⟩
end
section
variable {cl : Cl} {X : Cx} {d : Nat} {W : WX} {elt iter tg : Expr} {ifs : List Expr} {p : P.Ex1} {b : P.Bx} {own : List (Str × Nat)} {tgT : T → Fv → Option Fv} {pi : Fv → Res (List T)} {pos spos py : Pos} {scope : Scope}
/-- the context within a comprehension -/
abbrev XBlk (X : Cx) (sc : Scope) (s : Shared) (H : Hp) (C : Addr) (c : List (Str × Addr)) (fp : List Addr) : Cx := X.blk s H sc (compEnvC sc c C X.env) fp
theorem dn_lc (hN : X.N.Nodup) (hi : DI cl X d W tg iter pi) (ok : BlkOk X.N X.env.scope scope own)
    (hg : ∀ (s : Shared) (H : Hp) (C : Addr) (c : List (Str × Addr)) (fp : List Addr), DC cl (XBlk X scope s H C c fp) d (own.map (·.2)) tg tgT) (ht : ∀ (s : Shared) (H : Hp) (C : Addr) (c : List (Str × Addr)) (fp : List Addr), DTs cl (XBlk X scope s H C c fp) d W0 ifs b)
    (he : ∀ (s : Shared) (H : Hp) (C : Addr) (c : List (Str × Addr)) (fp : List Addr), DE cl (XBlk X scope s H C c fp) d W0 elt p) (hc : X.calm = true := by rfl) (hs : ∀ x, foldedSetIterable iter X.env x = pure x := by intro _; rfl) :
    DN cl X d W (.ListComp elt [⟨tg, iter, ifs, 0⟩] scope pos) (P.comp (own.map (·.2)) tgT pi b p) :=
  ⟨_, pe_lc hc hN hi.pI ok (fun s H C c fp => (hg s H C c fp).pg) (fun s H C c fp => (ht s H C c fp).pt) (fun s H C c fp => (he s H C c fp).pe) hs, sn_lc si_cI sc_cC st_cT se_cE⟩
theorem DN.de {e : Expr} {pn : Fv → Res (List T)} (h : DN cl X d W e pn) : DE cl X d W e (fun env => (pn env).bind fun ts => .ok (.lst none ts)) := by
  obtain ⟨te, a1, a2⟩ := h
  exact ⟨_, a1, a2.se⟩
/-- y = [..], frozen -/
theorem ds_asgLc {i : Nat} {y : Str} (hN : X.N.Nodup) (hi : DI cl X d W tg iter pi) (ok : BlkOk X.N X.env.scope scope own)
    (hg : ∀ (s : Shared) (H : Hp) (C : Addr) (c : List (Str × Addr)) (fp : List Addr), DC cl (XBlk X scope s H C c fp) d (own.map (·.2)) tg tgT) (ht : ∀ (s : Shared) (H : Hp) (C : Addr) (c : List (Str × Addr)) (fp : List Addr), DTs cl (XBlk X scope s H C c fp) d W0 ifs b)
    (he : ∀ (s : Shared) (H : Hp) (C : Addr) (c : List (Str × Addr)) (fp : List Addr), DE cl (XBlk X scope s H C c fp) d W0 elt p) (hsw : swapsWith (.ListComp elt [⟨tg, iter, ifs, 0⟩] scope pos) (some (.Name y py)) spos.line X.env = pure true) (hy : X.N[i]? = some y := by rfl) (hyl : X.env.scope.names.lookup y = some .local := by rfl) (hc : X.calm = true := by rfl) (hs : ∀ x, foldedSetIterable iter X.env x = pure x := by intro _; rfl) (hp : i = 0 → cl.pin = none := by first | (intro h; cases h) | (intro _; assumption)) :
    DS cl X d W (.Assign [.Name y py] (.ListComp elt [⟨tg, iter, ifs, 0⟩] scope pos) spos) (S.asg i (P.lc (own.map (·.2)) tgT pi b p)) :=
  ⟨_, ps_setLc hc hN hy hyl hsw hi.pI ok (fun s H C c fp => (hg s H C c fp).pg) (fun s H C c fp => (ht s H C c fp).pt) (fun s H C c fp => (he s H C c fp).pe) hs, ss_asg (SN.se (sn_lc si_cI sc_cC st_cT se_cE)) hp⟩
theorem ds_newLc {i : Nat} {y : Str} (hN : X.N.Nodup) (hi : DI cl X d W tg iter pi) (ok : BlkOk X.N X.env.scope scope own)
    (hg : ∀ (s : Shared) (H : Hp) (C : Addr) (c : List (Str × Addr)) (fp : List Addr), DC cl (XBlk X scope s H C c fp) d (own.map (·.2)) tg tgT) (ht : ∀ (s : Shared) (H : Hp) (C : Addr) (c : List (Str × Addr)) (fp : List Addr), DTs cl (XBlk X scope s H C c fp) d W0 ifs b)
    (he : ∀ (s : Shared) (H : Hp) (C : Addr) (c : List (Str × Addr)) (fp : List Addr), DE cl (XBlk X scope s H C c fp) d W0 elt p) (hsw : swapsWith (.ListComp elt [⟨tg, iter, ifs, 0⟩] scope pos) (some (.Name y py)) spos.line X.env = pure true) (hy : X.N[i]? = some y := by rfl) (hyl : X.env.scope.names.lookup y = some .local := by rfl) (hc : X.calm = true := by rfl) (hs : ∀ x, foldedSetIterable iter X.env x = pure x := by intro _; rfl) (hp : i = 0 → cl.pin = none := by first | (intro h; cases h) | (intro _; assumption)) :
    DS cl X d W (.Assign [.Name y py] (.ListComp elt [⟨tg, iter, ifs, 0⟩] scope pos) spos) (S.new i (P.comp (own.map (·.2)) tgT pi b p)) :=
  ⟨_, ps_setLc hc hN hy hyl hsw hi.pI ok (fun s H C c fp => (hg s H C c fp).pg) (fun s H C c fp => (ht s H C c fp).pt) (fun s H C c fp => (he s H C c fp).pe) hs, ss_new (sn_lc si_cI sc_cC st_cT se_cE) hp⟩
end
end Py

set_option Elab.async false
set_option linter.all false
set_option maxRecDepth 100000
set_option maxHeartbeats 4000000
namespace Py
open PySem L2 PySem.Spec PyProof.Rows Evl

/-! ### isinstance, a built-in class -/
/-- the name of a tree's class, if it is a built-in one -/
def T.tyn : T → Option String
  | .non => some "NoneType"
  | .bl _ => some "bool"
  | .int _ => some "int"
  | .str _ => some "str"
  | .lst _ _ => some "list"
  | .ro _ => none
  | .tup _ => some "tuple"
  | .ins _ _ _ _ => none
  | .exn _ _ _ => none
def T.isi (c : String) (t : T) : Option T := match t.tyn with
  | some n => (kitB n c).map .bl
  | none => none
section
variable {cl : Cl} {X : Cx} {G : Ge} {A : Al} {F H : Hp} {Q : VK} {E : XK} {d : Nat} {W : WX} {e : Expr} {p : P.Ex1} {pos p1 p2 : Pos} {c : String} {xc : Str}
theorem tyx_of {t : T} {v : V} {n : String} (h : rep G A F t v) (q : t.tyn = some n) : TyX G.K F v (.type n) := by
  cases t <;> cases q
  · cases h; exact .base .non
  · cases h; exact .base (.bl _)
  · cases h; exact .base (.int _)
  · cases h; exact .base (.str _)
  · obtain ⟨a, vs, rfl, h2, _⟩ := h
    exact .base (.lst h2)
  · obtain ⟨a, vs, rfl, h2, _⟩ := h
    rcases h2 with (h2 | ⟨o, h2⟩) | ⟨o, its, n, h2, h3, _⟩
    · exact .base (.tup h2)
    · exact .fTuple h2
    · exact .kTuple h2 h3
theorem tyx_mono {K : PySem.W.Frag} {v : V} {n : String} (e : Ex F H) (h : TyX K F v (.type n)) : TyX K H v (.type n) := by
  cases h with
  | base h =>
    cases h with
    | non => exact .base .non
    | bl b => exact .base (.bl b)
    | int b => exact .base (.int b)
    | str b => exact .base (.str b)
    | flt b => exact .base (.flt b)
    | lst h => exact .base (.lst (e _ _ h))
    | frz h => exact .base (.frz (e _ _ h))
    | tup h => exact .base (.tup (e _ _ h))
    | dK h => exact .base (.dK (e _ _ h))
    | dT h => exact .base (.dT (e _ _ h))
  | byt b => exact .byt b
  | set h => exact .set (e _ _ h)
  | kList h k => exact .kList h k
  | kTuple h k => exact .kTuple h k
  | kDict h k => exact .kDict h k
  | fTuple h => exact .fTuple (e _ _ h)
  | fDict h => exact .fDict (e _ _ h)
theorem de_isi (hm : X.mg "isinstance" = none) (hc : X.mg xc = none) (hv : bootBuiltins xc = some (.type c)) (h : DE cl X d W e p) (hn : xc ≠ "__name__" := by decide) (hd : (xc == ("__debug__" : Str)) = false := by decide) (hg : Gl X "isinstance" := by rfl) (hg2 : Gl X xc := by rfl)
    (he : starEach [e, .Name xc p2] X.env = (false, eval e X.env) :: starEach [.Name xc p2] X.env := by rfl) (he2 : starEach [.Name xc p2] X.env = (false, eval (.Name xc p2) X.env) :: starEach [] X.env := by rfl) (hpl : (backTo pos (starEach [.Name xc p2] X.env)).any (·.1) = false := by rfl) :
    DE cl X d W (.Call (.Name "isinstance" p1) [e, .Name xc p2] [] pos) (P.un (T.isi c) p) := by
  obtain ⟨te, a1, a2⟩ := h
  refine ⟨_, pe_callB call_isi hg hm (by decide +kernel) (pa_cons a1 (pa_cons (pe_bltn (v := .ty c) hg2 hc hv rfl hn hd) pa_nil he2) he) (by decide) (by decide) he hpl, fun A env σ F H Q R e o => a2 A env σ F H _ R e (Outg.bind o fun x v F1 H1 g1 rx o1 => ?_)⟩
  unfold T.isi at o1
  cases q : x.tyn with
  | none => rw [q] at o1; exact o1.elim
  | some n =>
    rw [q] at o1
    cases q2 : kitB n c with
    | none => simp only [q2] at o1; exact o1.elim
    | some b =>
      simp only [q2] at o1
      exact ⟨v, .ty c, .type n, .type c, b, rfl, .ty c, tyx_mono g1.sub (tyx_of rx q), kit_ty q2, Out.here o1 g1.sub rfl⟩
end
end Py

set_option Elab.async false
set_option linter.all false
set_option maxRecDepth 100000
set_option maxHeartbeats 4000000
namespace Py
open PySem L2 PySem.Spec PyProof.Rows Evl

/-! ### a class of errors -/
def oexB (K : PySem.W.Frag) (C : Addr) : Bool := (match K.lookup C with
  | some ⟨.type "type", _, .cls cd, sl⟩ => (match cd.mro, sl.toList with
    | .ref C' :: bm, [_, _, _, _, some (.builtin n), _] => C' == C && n == "ValueError.__new__" && !cd.hasDel && cd.hasDict && PySem.HandSPX.refsVE bm
    | _, _ => false)
  | _ => false) && (He.eqO (PySem.W.findIn K (.ref C) "__setattr__") (some (some (.builtin "object.__setattr__"))) && (decide (PySem.W.subIn K (.ref C) (.type "BaseException") = some true) && (decide (PySem.W.typeIn K (.ref C) = some (.type "type")) && PySem.W.keepIn K (.ref C))))
theorem oexB_ok {K : PySem.W.Frag} {C : Addr} (h : oexB K C = true) : OexC K C := by
  obtain ⟨h1, h⟩ := band h
  obtain ⟨h2, h⟩ := band h
  obtain ⟨h3, h⟩ := band h
  obtain ⟨h4, h5⟩ := band h
  refine ⟨?_, He.eqO_ok h2, of_decide_eq_true h3, of_decide_eq_true h4, h5⟩
  split at h1
  · rename_i dd cd sl ho
    split at h1
    · rename_i C' bm k0 k1 k2 k3 n k5 hm hs
      simp only [Bool.and_eq_true, beq_iff_eq, Bool.not_eq_true'] at h1
      obtain ⟨⟨⟨⟨rfl, rfl⟩, hdel⟩, hdi⟩, ht⟩ := h1
      obtain ⟨nm, bs, mro, ns, qn, hd, sn, sub, ab, col, del⟩ := cd
      dsimp only at hm hdel hdi
      subst hm hdel hdi
      have hsl : sl = #[k0, k1, k2, k3, some (.builtin "ValueError.__new__"), k5] := by
        obtain ⟨l⟩ := sl
        simp only at hs
        rw [hs]
      subst hsl
      exact ⟨nm, qn, ns, bs, bm, sn, sub, ab, col, dd, k0, k1, k2, k3, k5, ho, ht⟩
    · cases h1
  · cases h1
/-- what isinstance asks of such a class -/
structure IsC (K : PySem.W.Frag) (C : Addr) : Prop where
  cl : (PySem.W.clsIn K C).isSome = true
  ga : PySem.W.findIn K (.ref C) "__getattribute__" = some (some (.builtin "BaseException.__getattribute__"))
  gg : PySem.W.findIn K (.ref C) "__getattr__" = some none
  sub : PySem.W.subIn K (.ref C) (.type "BaseException") = some true
  ha : PySem.W.findIn K (.ref C) "__class__" = some (some (.builtin "object.__class__"))
  hn : PySem.W.specialIn K (.builtin "object.__class__") "__get__" = some (some (.builtin "getset_descriptor.__get__"))
  tk : PySem.W.takesIn K (.builtin "object.__class__") = some true
  mr : PySem.W.mroIn K C (.type "object") = some true
def isB (K : PySem.W.Frag) (C : Addr) : Bool := (PySem.W.clsIn K C).isSome && (decide (PySem.W.findIn K (.ref C) "__getattribute__" = some (some (.builtin "BaseException.__getattribute__"))) && (decide (PySem.W.findIn K (.ref C) "__getattr__" = some none) && (decide (PySem.W.subIn K (.ref C) (.type "BaseException") = some true) &&
  (decide (PySem.W.findIn K (.ref C) "__class__" = some (some (.builtin "object.__class__"))) && (decide (PySem.W.specialIn K (.builtin "object.__class__") "__get__" = some (some (.builtin "getset_descriptor.__get__"))) && (decide (PySem.W.takesIn K (.builtin "object.__class__") = some true) && decide (PySem.W.mroIn K C (.type "object") = some true)))))))
theorem isB_ok {K : PySem.W.Frag} {C : Addr} (h : isB K C = true) : IsC K C := by
  obtain ⟨h1, h⟩ := band h
  obtain ⟨h2, h⟩ := band h
  obtain ⟨h3, h⟩ := band h
  obtain ⟨h4, h⟩ := band h
  obtain ⟨h5, h⟩ := band h
  obtain ⟨h6, h⟩ := band h
  obtain ⟨h7, h8⟩ := band h
  exact ⟨h1, of_decide_eq_true h2, of_decide_eq_true h3, of_decide_eq_true h4, of_decide_eq_true h5, of_decide_eq_true h6, of_decide_eq_true h7, of_decide_eq_true h8⟩

/-! ### an error's __init__ that stores its parameters -/
def spXI (C : Addr) (ns : List Str) : Sp := fun vs H Q E => ∃ a ws, vs = .ref a :: ws ∧ ws.length = ns.length ∧ H a = some (exo a C none) ∧ ∀ dx H', H dx = none → dx ≠ a → H' a = some (exo a C (some dx)) → H' dx = some (exd dx (ns.zip ws).reverse) → (∀ b, b ≠ a → b ≠ dx → H' b = H b) → Q .non H'
section
variable {K : PySem.W.Frag} {C a dx : Addr} {σ : L2.St} {H : Hp} {D : Ends} {f : Str} {i : Nat} {y : V} {fs : List (Str × V)}
theorem rd_ost1 (h0 : σ[0]? = some (some (.ref a))) (hi : σ[i]? = some (some y)) (T : OexC K C) (no : PySem.W.findIn K (.ref C) f = some none) (ha : H a = some (exo a C none))
    (k : ∀ dx, H dx = none → dx ≠ a → D.nx σ (upd (upd H dx (exd dx [(f, y)])) a (exo a C (some dx)))) : tOst K f (tVar 0) (tVar i) D σ H := ⟨y, hi, _, h0, a, C, rfl, T, no, .inl ⟨ha, k⟩⟩
theorem rd_ost2 (h0 : σ[0]? = some (some (.ref a))) (hi : σ[i]? = some (some y)) (T : OexC K C) (no : PySem.W.findIn K (.ref C) f = some none) (ha : H a = some (exo a C (some dx))) (hd : H dx = some (exd dx fs)) (hl : fs.length ≤ 900)
    (k : D.nx σ (upd H dx (exd dx ((f, y) :: fs)))) : tOst K f (tVar 0) (tVar i) D σ H := ⟨y, hi, _, h0, a, C, rfl, T, no, .inr ⟨dx, fs, ha, hd, hl, k⟩⟩
end
/-- a class of errors with its __init__, as its raisers use it -/
structure Xok (cl : Cl) (P : Program) (w : World) (K : PySem.W.Frag) (mg : Str → Option Value) (base : Heap) (x : Str) (c : Nat) (ns : List Str) : Prop where
  ex : ∃ fI fd ps k, OexC K (cl.f c) ∧ PySem.W.findIn K (.ref (cl.f c)) "__init__" = some (some (.ref fI)) ∧ PySem.W.typeIn K (.ref fI) = some (.type "function") ∧ FnOk P w K mg base (L2.CX P w) 1 fI fd ps (spXI (cl.f c) ns) ∧ Binds K fd ps [] ∧ mg x = some (.ref (cl.f c)) ∧ k = 1
namespace S
def raise_ (c : Nat) (ns : List Str) (a : P.Ax) : Sx := fun env => (a (hide env)).then_ env fun ts => if ts.length = ns.length ∧ ts.length ≤ 1000 then .er ⟨c, ns, ts.reverse⟩ env else .stuck
def raise0 (c : Nat) : Sx := fun env => .er ⟨c, [], []⟩ env
end S
section
variable {cl : Cl} {X : Cx} {G : Ge} {d : Nat} {W : WX} {e : Expr} {es : List Expr} {a : P.Ax} {ta : TA} {x : Str} {p1 pos : Pos} {ns : List Str} {c : Nat}
theorem zip_rev {α β : Type} : ∀ {xs : List α} {ys : List β}, xs.length = ys.length → (xs.zip ys).reverse = xs.reverse.zip ys.reverse
  | [], [], _ => rfl
  | x :: xs, y :: ys, h => by
    have h' : xs.length = ys.length := by simpa using h
    rw [List.zip_cons_cons, List.reverse_cons, List.reverse_cons, List.reverse_cons, zip_rev h', List.zip_append (by rw [List.length_reverse, List.length_reverse]; exact h')]
    rfl
theorem ss_raise (ha : SA G d W ta a) : SS G d W (fun _ σ H => tMkO (G.cl c) (spXI (G.cl c) ns) [] ta σ H fun cls d H' => W cls d σ H') (S.raise_ c ns.reverse a) := fun A0 F0 H0 A env σ F H D R o =>
  R.runA ha o fun ts vs F1 H1 R1 rs o1 => by
    obtain ⟨⟨hl, hz⟩, o2⟩ := OutS.of_if o1
    rw [List.length_reverse] at hl
    refine ⟨by rw [rs.length]; exact hz, fun b hb => ⟨b, vs, by rw [List.append_nil], by rw [rs.length]; exact hl, upd_same, fun dx H' hd hne hHa hHd hr => ⟨rfl, dx, _, hHa, hHd, ?_, ?_⟩⟩⟩
    · rw [upd_ne hne] at hd
      exact hd
    · have hd1 : H1 dx = none := by
        rw [upd_ne hne] at hd
        exact hd
      have eH : upd (del H' b) dx (.xd (ns.zip vs).reverse) = upd H1 dx (.xd (ns.zip vs).reverse) := by
        funext q
        by_cases c1 : q = dx
        · rw [c1, upd_same, upd_same]
        · rw [upd_ne c1, upd_ne c1]
          by_cases c2 : q = b
          · rw [c2, del_same, hb]
          · rw [del_ne c2, hr q c2 c1, upd_ne c2]
      rw [eH]
      have g := Grow.new (o := .xd (ns.zip vs).reverse) R1.sub hd1
      refine o2 A σ _ _ (some dx) (R1.grow g) (.inr ⟨dx, vs.reverse, rfl, ?_, ?_, ?_⟩)
      · rw [upd_same, zip_rev (by rw [rs.length, hl])]
      · show vs.reverse.length = ns.reverse.length
        rw [List.length_reverse, List.length_reverse, rs.length, hl]
      · exact (rs.mono g.ex).reverse
theorem passL0 : Passes (L2.CX X.prog X.w) X (fun _ _ _ => False) := passL
theorem ds_raise {ns' : List Str} (Q : Xok cl X.prog X.w X.K X.mg X.base x c ns) (hr : Room 2 X.A) (ha : DA cl X d W (e :: es) a) (tk : Takes X W := by exact tk_of) (hns : ns' = ns.reverse := by rfl) (hc : X.calm = true := by rfl) (hg : Gl X x := by rfl) (hdb : (x == ("__debug__" : Str)) = false := by decide)
    (he : starEach (e :: es) X.env = (false, eval e X.env) :: starEach es X.env := by rfl) (hpl : (backTo p1 (starEach es X.env)).any (·.1) = false := by rfl) {p : Pos} : DS cl X d W (.Raise (some (.Call (.Name x p) (e :: es) [] p1)) none pos) (S.raise_ c ns' a) := by
  subst hns
  obtain ⟨t, c1, c2⟩ := ha
  obtain ⟨fI, fd, ps, k, T, iC, tI, F1, hb, hm, _⟩ := Q
  exact ⟨_, ps_raise hc tk (pmk_oex (dvs := []) (ds := []) T iC tI F1 hr hb .nil passL0 hg hm c1 hdb he hpl), ss_raise c2⟩
end

/-! ### try .. except C as e: .. over one call -/
mutual
def noX : T → Bool
  | .lst _ ts => noXs ts
  | .tup ts => noXs ts
  | .ro ts => noXs ts
  | .ins _ _ _ ts => noXs ts
  | .exn _ _ _ => false
  | _ => true
def noXs : List T → Bool
  | [] => true
  | t :: ts => noX t && noXs ts
end
def noXS : Option Sl → Bool
  | some (.fz t) => noX t
  | some (.ol ts) => noXs ts
  | some (.oi _ _ ts) => noXs ts
  | none => true
def Cl.hold (cl : Cl) (x : Addr × Value × Option Addr) : Cl := { cl with xh := some x }
section
variable {K : PySem.W.Frag} {cl : Cl} {x : Addr × Value × Option Addr} {A : Al} {F : Hp}
mutual
theorem rep.hold (h0 : cl.xh = none) : ∀ {t : T} {v : V}, rep ⟨K, cl⟩ A F t v → rep ⟨K, cl.hold x⟩ A F t v
  | .non, _, h => h
  | .bl _, _, h => h
  | .int _, _, h => h
  | .str _, _, h => h
  | .lst _ _, _, ⟨a, vs, e1, e2, e3, e4⟩ => ⟨a, vs, e1, e2, e3, reps.hold h0 e4⟩
  | .tup _, _, ⟨a, vs, e1, e2, e4⟩ => ⟨a, vs, e1, e2, reps.hold h0 e4⟩
  | .ro _, _, ⟨a, vs, e1, e2, e4⟩ => ⟨a, vs, e1, e2, reps.hold h0 e4⟩
  | .ins _ _ _ _, _, ⟨a, dx, vs, e1, e2, e3, e5, e4⟩ => ⟨a, dx, vs, e1, e2, e3, e5, reps.hold h0 e4⟩
  | .exn _ _ _, _, ⟨a, cls, dx, e1, _⟩ => by
    rw [show (⟨K, cl⟩ : Ge).c.xh = none from h0] at e1
    cases e1
theorem reps.hold (h0 : cl.xh = none) : ∀ {ts : List T} {vs : List V}, reps ⟨K, cl⟩ A F ts vs → reps ⟨K, cl.hold x⟩ A F ts vs
  | [], _, h => h
  | _ :: _, _, ⟨v, ws, e1, e2, e3⟩ => ⟨v, ws, e1, rep.hold h0 e2, reps.hold h0 e3⟩
end
mutual
theorem rep.drop : ∀ {t : T} {v : V}, noX t = true → rep ⟨K, cl.hold x⟩ A F t v → rep ⟨K, cl⟩ A F t v
  | .non, _, _, h => h
  | .bl _, _, _, h => h
  | .int _, _, _, h => h
  | .str _, _, _, h => h
  | .lst _ _, _, n, ⟨a, vs, e1, e2, e3, e4⟩ => ⟨a, vs, e1, e2, e3, reps.dropX n e4⟩
  | .tup _, _, n, ⟨a, vs, e1, e2, e4⟩ => ⟨a, vs, e1, e2, reps.dropX n e4⟩
  | .ro _, _, n, ⟨a, vs, e1, e2, e4⟩ => ⟨a, vs, e1, e2, reps.dropX n e4⟩
  | .ins _ _ _ _, _, n, ⟨a, dx, vs, e1, e2, e3, e5, e4⟩ => ⟨a, dx, vs, e1, e2, e3, e5, reps.dropX n e4⟩
  | .exn _ _ _, _, n, _ => by cases n
theorem reps.dropX : ∀ {ts : List T} {vs : List V}, noXs ts = true → reps ⟨K, cl.hold x⟩ A F ts vs → reps ⟨K, cl⟩ A F ts vs
  | [], _, _, h => h
  | _ :: _, _, n, ⟨v, ws, e1, e2, e3⟩ => by
    obtain ⟨n1, n2⟩ := band n
    exact ⟨v, ws, e1, rep.drop n1 e2, reps.dropX n2 e3⟩
end
theorem Rel.hold {d : Nat} {A0 : Al} {F0 H0 H : Hp} {env : Fv} {σ : L2.St} (h0 : cl.xh = none) (R : Rel ⟨K, cl⟩ d A0 F0 H0 A env σ F H) : Rel ⟨K, cl.hold x⟩ d A0 F0 H0 A env σ F H :=
  ⟨R.ok0, R.dep0, R.len, R.agree, R.dep, R.inj, R.own, R.exF, R.sub, R.keep, R.sep, fun i t e => let ⟨v, h1, h2⟩ := R.fz i t e; ⟨v, h1, h2.hold h0⟩,
    fun i ts e => let ⟨p, vs, h1, h2, h3, h4⟩ := R.ol i ts e; ⟨p, vs, h1, h2, h3, h4.hold h0⟩, fun i c ns ts e => let ⟨p, dx, vs, h1, h2, h3, h5, h4⟩ := R.oi i c ns ts e; ⟨p, dx, vs, h1, h2, h3, h5, h4.hold h0⟩, R.pin⟩
theorem Rel.dropX {d : Nat} {A0 : Al} {F0 H0 H : Hp} {env : Fv} {σ : L2.St} (n : env.all noXS = true) (R : Rel ⟨K, cl.hold x⟩ d A0 F0 H0 A env σ F H) : Rel ⟨K, cl⟩ d A0 F0 H0 A env σ F H :=
  ⟨R.ok0, R.dep0, R.len, R.agree, R.dep, R.inj, R.own, R.exF, R.sub, R.keep, R.sep,
    fun i t e => let ⟨v, h1, h2⟩ := R.fz i t e; ⟨v, h1, h2.drop (List.all_eq_true.mp n _ (List.mem_of_getElem? e))⟩,
    fun i ts e => let ⟨p, vs, h1, h2, h3, h4⟩ := R.ol i ts e; ⟨p, vs, h1, h2, h3, h4.dropX (List.all_eq_true.mp n _ (List.mem_of_getElem? e))⟩,
    fun i c ns ts e => let ⟨p, dx, vs, h1, h2, h3, h5, h4⟩ := R.oi i c ns ts e; ⟨p, dx, vs, h1, h2, h3, h5, h4.dropX (List.all_eq_true.mp n _ (List.mem_of_getElem? e))⟩, R.pin⟩
/-- a slot emptied -/
theorem Rel.gone {G : Ge} {d i : Nat} {A0 : Al} {F0 H0 H : Hp} {env : Fv} {σ : L2.St} (R : Rel G d A0 F0 H0 A env σ F H) (hp : i = 0 → G.c.pin = none) : ∃ A', Rel G d A0 F0 H0 A' (env.set i none) (σ.set i none) F H := by
  refine ⟨fun g => if g = (d, i) then none else A g, R.ok0, R.dep0, by rw [List.length_set, List.length_set]; exact R.len, fun g z => ?_, fun g a z => ?_, fun g g' a z y => ?_, fun j a z => ?_, R.exF, R.sub, R.keep, R.sep, fun j u e => ?_, fun j u e => ?_, fun j cc ns u e => ?_, fun b z => ?_⟩
  · show (if g = (d, i) then none else A g) = _
    rw [if_neg (fun y => by rw [y] at z; exact absurd z (Nat.lt_irrefl _))]
    exact R.agree g z
  · have z' : (if g = (d, i) then none else A g) = some a := z
    by_cases c : g = (d, i)
    · rw [if_pos c] at z'; cases z'
    · rw [if_neg c] at z'; exact R.dep g a z'
  · have z' : (if g = (d, i) then none else A g) = some a := z
    have y' : (if g' = (d, i) then none else A g') = some a := y
    by_cases c : g = (d, i)
    · rw [if_pos c] at z'; cases z'
    · by_cases c' : g' = (d, i)
      · rw [if_pos c'] at y'; cases y'
      · rw [if_neg c] at z'; rw [if_neg c'] at y'; exact R.inj g g' a z' y'
  · have z' : (if (d, j) = (d, i) then none else A (d, j)) = some a := z
    by_cases c : (d, j) = (d, i)
    · rw [if_pos c] at z'; cases z'
    · rw [if_neg c] at z'; exact R.own j a z'
  · have ne : i ≠ j := fun c => by
      subst c
      rw [List.getElem?_set, if_pos rfl] at e
      split at e <;> cases e
    rw [List.getElem?_set_ne ne] at e ⊢
    exact R.fz j u e
  · have ne : i ≠ j := fun c => by
      subst c
      rw [List.getElem?_set, if_pos rfl] at e
      split at e <;> cases e
    rw [List.getElem?_set_ne ne] at e ⊢
    obtain ⟨p, vs, h1, h2, h3⟩ := R.ol j u e
    refine ⟨p, vs, h1, ?_, h3⟩
    show (if (d, j) = (d, i) then none else A (d, j)) = some p
    rw [if_neg (fun y => ne (Prod.mk.inj y).2.symm)]
    exact h2
  · have ne : i ≠ j := fun c => by
      subst c
      rw [List.getElem?_set, if_pos rfl] at e
      split at e <;> cases e
    rw [List.getElem?_set_ne ne] at e ⊢
    obtain ⟨p, dx, vs, h1, h2, h3⟩ := R.oi j cc ns u e
    refine ⟨p, dx, vs, h1, ?_, h3⟩
    show (if (d, j) = (d, i) then none else A (d, j)) = some p
    rw [if_neg (fun y => ne (Prod.mk.inj y).2.symm)]
    exact h2
  · rw [if_neg (fun y => by rw [hp (Prod.mk.inj y).2.symm] at z; cases z)]
    exact R.pin b z
end
namespace S
/-- what a suite leaves -/
def done (i : Nat) : RS → RS
  | .nx env => if (env.set i none).all noXS = true then .nx (env.set i none) else .stuck
  | .rt t => if noX t = true then .rt t else .stuck
  | .br env => if (env.set i none).all noXS = true then .br (env.set i none) else .stuck
  | .ct env => if (env.set i none).all noXS = true then .ct (env.set i none) else .stuck
  | _ => .stuck
/-- try: s, except one of the classes whose answer ok c tells, as slot i: u; what is not taken goes on -/
def try_ (tk : Nat → Option Bool) (i : Nat) (s u : Sx) : Sx := fun env => match s env with
  | .er e env1 => (match tk e.c with
    | some true => if i < env1.length then done i (u (env1.set i (some (.fz (.exn e.c e.ns e.ts))))) else .stuck
    | some false => .er e env1
    | none => .stuck)
  | r => r
end S
section
variable {K : PySem.W.Frag} {cl : Cl} {d i : Nat} {W : WX} {s u : Sx} {tb : WX → TS} {ts : Addr → Value → Option Addr → TS} {c : Value} {tk : Nat → Option Bool}
/-- W: what is wished outside -/
theorem ss_try (hp : i = 0 → cl.pin = none) (h0 : cl.xh = none) (htk : ∀ n b, tk n = some b → PySem.W.exmOne K (.ref (cl.f n)) c = some b) (hb : ∀ W', SS ⟨K, cl⟩ d W' (tb W') s) (hu : ∀ a cls dx, SS ⟨K, cl.hold (a, cls, dx)⟩ d W0 (ts a cls dx) u) :
    SS ⟨K, cl⟩ d W (fun D σ H => tb (wAs K c i ts W D) D σ H) (S.try_ tk i s u) := fun A0 F0 H0 A env σ F H D R o => by
  refine hb _ A0 F0 H0 A env σ F H D R ?_
  have o' : OutS ⟨K, cl⟩ d A0 F0 H0 W D (match s env with
    | .er e env1 => (match tk e.c with
      | some true => if i < env1.length then S.done i (u (env1.set i (some (.fz (.exn e.c e.ns e.ts))))) else .stuck
      | some false => .er e env1
      | none => .stuck)
    | r => r) := o
  cases z : s env with
  | nx env => rw [z] at o'; exact o'
  | rt t => rw [z] at o'; exact o'
  | br env => rw [z] at o'; exact o'
  | ct env => rw [z] at o'; exact o'
  | stuck => rw [z] at o'; exact o'
  | er e env1 =>
    rw [z] at o'
    intro A1 σ1 F1 H1 dx R1 x1
    cases q : tk e.c with
    | none => simp only [q] at o'; exact o'.elim
    | some b =>
      refine ⟨b, htk _ _ q, fun hbt a ha => ?_, fun hbf => ?_⟩
      · subst hbt
        simp only [q] at o'
        obtain ⟨hi, o2⟩ := OutS.of_if o'
        have R2 : Rel ⟨K, cl.hold (a, .ref (cl.f e.c), dx)⟩ d A0 F0 H0 A1 env1 σ1 F1 H1 := R1.hold h0
        have rx : rep ⟨K, cl.hold (a, .ref (cl.f e.c), dx)⟩ A0 F1 (.exn e.c e.ns e.ts) (.ref a) := ⟨a, _, dx, rfl, rfl, rfl, match x1 with
          | .inl z => .inl z
          | .inr ⟨dd, vs, k1, k2, k3, k4⟩ => .inr ⟨dd, vs, k1, k2, k3, k4.hold h0⟩⟩
        obtain ⟨A2, R3⟩ := R2.set rx hi hp
        refine hu a _ dx A0 F0 H0 A2 _ _ F1 H1 _ R3 ?_
        cases z2 : u (env1.set i (some (.fz (.exn e.c e.ns e.ts)))) with
        | nx env2 =>
          rw [z2] at o2
          obtain ⟨n, o3⟩ := OutS.of_if o2
          intro A4 σ4 F4 H4 R4
          obtain ⟨A5, R5⟩ := R4.gone (i := i) hp
          exact o3 A5 _ F4 H4 (R5.dropX n)
        | br env2 =>
          rw [z2] at o2
          obtain ⟨n, o3⟩ := OutS.of_if o2
          intro A4 σ4 F4 H4 R4
          obtain ⟨A5, R5⟩ := R4.gone (i := i) hp
          exact o3 A5 _ F4 H4 (R5.dropX n)
        | ct env2 =>
          rw [z2] at o2
          obtain ⟨n, o3⟩ := OutS.of_if o2
          intro A4 σ4 F4 H4 R4
          obtain ⟨A5, R5⟩ := R4.gone (i := i) hp
          exact o3 A5 _ F4 H4 (R5.dropX n)
        | rt t =>
          rw [z2] at o2
          obtain ⟨n, o3⟩ := OutS.of_if o2
          intro v F4 H4 g r
          exact o3 v F4 H4 g (r.drop n)
        | er e2 env2 => rw [z2] at o2; exact o2.elim
        | stuck => rw [z2] at o2; exact o2.elim
      · subst hbf
        simp only [q] at o'
        exact o' A1 σ1 F1 H1 dx R1 x1
end
end Py

set_option Elab.async false
set_option linter.all false
set_option maxRecDepth 100000
set_option maxHeartbeats 4000000
namespace Py
open PySem L2 PySem.Spec PyProof.Rows Evl

/-! ### blocks: the reading that says just what is asked -/
def cB (G : Ge) (d : Nat) (W : WX) (s : Sx) : TS := fun D σ H => ∃ A0 F0 H0 A env F, Rel G d A0 F0 H0 A env σ F H ∧ OutS G d A0 F0 H0 W D (s env)
section
variable {G : Ge} {cl : Cl} {X : Cx} {d i : Nat} {W : WX} {s u : Sx} {b body suite : List Stmt} {b₀ : Stmt}
theorem ss_cB : SS G d W (cB G d W s) s := fun A0 F0 H0 A env σ F H D R o => ⟨A0, F0, H0, A, env, F, R, o⟩
theorem DB.pss (h : DB cl X d W b s) : PSs X b (cB ⟨X.K, cl⟩ d W s) := by
  obtain ⟨t, a1, a2⟩ := h
  exact ⟨fun pins s σ H D I ⟨A0, F0, H0, A, env, F, R, o⟩ => a1.run pins s σ H D I (a2 A0 F0 H0 A env σ F H D R o)⟩
theorem ds_try {x n : Str} {c : Value} {np pos pos' : Pos} {tk : Nat → Option Bool} (hN : X.N.Nodup) (hc : Names X x c) (htk : ∀ n b, tk n = some b → PySem.W.exmOne X.K (.ref (cl.f n)) c = some b)
    (hb : ∀ (W' : WX) (pn : List (Addr × Obj)) (xe : Value → Shared → Prop), Takes (X.tr pn xe) W' → PassesOwn (model X.prog X.w) X.A X.env xe → DB cl (X.tr pn xe) d W' body s)
    (hu : ∀ (a : Addr) (oe : Obj) (cls : Value) (dx : Option Addr) (pn : List (Addr × Obj)), Zc cls dx oe → (∃ vs, oe.data = .fields vs) → DB (cl.hold (a, cls, dx)) (X.suite a ((a, oe) :: pn)) d W0 (b₀ :: suite) u)
    (tkk : Takes X W) (h0 : cl.xh = none) (hi : X.N[i]? = some n := by rfl) (hln : X.env.kindOf n = some .local := by rfl) (hs : X.stack = X.env :: X.outer := by rfl) (hf : X.env.frame = some X.env.locals := by rfl) (hp : i = 0 → cl.pin = none := by first | (intro h; cases h) | (intro _; assumption)) :
    DS cl X d W (.Try body [.ExceptHandler (some (.Name x np)) (some n) (b₀ :: suite) pos'] [] [] pos) (S.try_ tk i s u) :=
  ⟨_, ps_try_as hs hf hN hi hln hc tkk (tb := fun W' => cB ⟨X.K, cl⟩ d W' s) (ts := fun a cls dx => cB ⟨X.K, cl.hold (a, cls, dx)⟩ d W0 u) (fun W' pn xe t p => (hb W' pn xe t p).pss) (fun a oe cls dx pn z f => (hu a oe cls dx pn z f).pss), ss_try hp h0 htk (fun W' => ss_cB) (fun a cls dx => ss_cB)⟩
end
namespace S
def noEr : RS → RS
  | .er _ _ => .stuck
  | r => r
/-- without a name -/
def tryN (tk : Nat → Option Bool) (s u : Sx) : Sx := fun env => match s env with
  | .er e env1 => (match tk e.c with
    | some true => noEr (u env1)
    | some false => .er e env1
    | none => .stuck)
  | r => r
end S
section
variable {K : PySem.W.Frag} {cl : Cl} {X : Cx} {d i : Nat} {W : WX} {s u : Sx} {tb : WX → TS} {ts : Addr → Value → Option Addr → TS} {c : Value} {tk : Nat → Option Bool} {b body suite : List Stmt} {b₀ : Stmt}
theorem ss_tryN (htk : ∀ n b, tk n = some b → PySem.W.exmOne K (.ref (cl.f n)) c = some b) (hb : ∀ W', SS ⟨K, cl⟩ d W' (tb W') s) (hu : ∀ a cls dx, SS ⟨K, cl⟩ d W0 (ts a cls dx) u) :
    SS ⟨K, cl⟩ d W (fun D σ H => tb (wOnly K c ts W D) D σ H) (S.tryN tk s u) := fun A0 F0 H0 A env σ F H D R o => by
  refine hb _ A0 F0 H0 A env σ F H D R ?_
  have o' : OutS ⟨K, cl⟩ d A0 F0 H0 W D (match s env with
    | .er e env1 => (match tk e.c with
      | some true => S.noEr (u env1)
      | some false => .er e env1
      | none => .stuck)
    | r => r) := o
  cases z : s env with
  | nx env => rw [z] at o'; exact o'
  | rt t => rw [z] at o'; exact o'
  | br env => rw [z] at o'; exact o'
  | ct env => rw [z] at o'; exact o'
  | stuck => rw [z] at o'; exact o'
  | er e env1 =>
    rw [z] at o'
    intro A1 σ1 F1 H1 dx R1 x1
    cases q : tk e.c with
    | none => simp only [q] at o'; exact o'.elim
    | some b =>
      refine ⟨b, htk _ _ q, fun hbt a ha => ?_, fun hbf => ?_⟩
      · subst hbt
        simp only [q] at o'
        refine hu a _ dx A0 F0 H0 A1 _ _ F1 H1 _ R1 ?_
        cases z2 : u env1 with
        | nx env2 => rw [z2] at o'; exact o'
        | br env2 => rw [z2] at o'; exact o'
        | ct env2 => rw [z2] at o'; exact o'
        | rt t => rw [z2] at o'; exact o'
        | er e2 env2 => rw [z2] at o'; exact o'.elim
        | stuck => rw [z2] at o'; exact o'.elim
      · subst hbf
        simp only [q] at o'
        exact o' A1 σ1 F1 H1 dx R1 x1
theorem ds_tryN {x : Str} {np pos pos' : Pos} (hc : Names X x c) (htk : ∀ n b, tk n = some b → PySem.W.exmOne X.K (.ref (cl.f n)) c = some b)
    (hb : ∀ (W' : WX) (pn : List (Addr × Obj)) (xe : Value → Shared → Prop), Takes (X.tr pn xe) W' → PassesOwn (model X.prog X.w) X.A X.env xe → DB cl (X.tr pn xe) d W' body s)
    (hu : ∀ (a : Addr) (oe : Obj) (pn : List (Addr × Obj)), DB cl (X.suite a ((a, oe) :: pn)) d W0 (b₀ :: suite) u)
    (tkk : Takes X W) (hs : X.stack = X.env :: X.outer := by rfl) (hf : X.env.frame = some X.env.locals := by rfl) :
    DS cl X d W (.Try body [.ExceptHandler (some (.Name x np)) none (b₀ :: suite) pos'] [] [] pos) (S.tryN tk s u) :=
  ⟨_, ps_try_only hs hf hc tkk (tb := fun W' => cB ⟨X.K, cl⟩ d W' s) (ts := fun a cls dx => cB ⟨X.K, cl⟩ d W0 u) (fun W' pn xe t p => (hb W' pn xe t p).pss) (fun a oe cls dx pn z f => (hu a oe pn).pss), ss_tryN htk (fun W' => ss_cB) (fun a cls dx => ss_cB)⟩
end

/-! ### what a suite asks of the error that it holds -/
def T.isx (tk : Nat → Option Bool) : T → Option T
  | .exn c _ _ => (tk c).map .bl
  | _ => none
def DxOk (dx : Option Addr) (H : Hp) : Prop := dx = none ∨ ∃ dd fs, dx = some dd ∧ H dd = some (.xd fs)
def rIsX (K : PySem.W.Frag) (a : Addr) (cls : Value) (dx : Option Addr) : List V → Hp → VK → Prop := fun xs H Q => ∃ (D : Addr) (c : V) (u : Value) (b : Bool), cls = .ref D ∧ IsC K D ∧ DxOk dx H ∧ xs = [.ref a, c] ∧ ClsV c u ∧ PySem.W.kitOne K (.ref D) u = some b ∧ Q (.bl b) H
/-- or of the classes of a tuple -/
def rIsXT (K : PySem.W.Frag) (a : Addr) (cls : Value) (dx : Option Addr) : List V → Hp → VK → Prop := fun xs H Q => ∃ (D : Addr) (tp : Addr) (cs : List V) (us : List Value) (b : Bool), cls = .ref D ∧ IsC K D ∧ DxOk dx H ∧ xs = [.ref a, .ref tp] ∧ H tp = some (.tup cs) ∧ Paired ClsV cs us ∧ PySem.W.kitAny K (.ref D) us = some b ∧ Q (.bl b) H
section
variable {X : Cx} {a : Addr} {oe : Obj} {cls : Value} {dx : Option Addr} {pn : List (Addr × Obj)}
theorem inst_of {D : Addr} {pins : List (Addr × Obj)} {σ : L2.St} {H : Hp} {s : Shared} (I : Inv (X.suite a ((a, oe) :: pn)) pins σ H s) (hz : Zc (.ref D) dx oe) (hf : ∃ vs, oe.data = .fields vs) (hx : DxOk dx H) : ∃ od, PySem.W.InstAt s.heap a oe D od := by
  obtain ⟨hget, _⟩ := I.pin (a, oe) (List.mem_append.mpr (.inl List.mem_cons_self))
  obtain ⟨vs, hv⟩ := hf
  rcases hx with rfl | ⟨dd, fs, rfl, ea⟩
  · exact ⟨none, hget, hz.1, by unfold PySem.W.notCls; rw [hv] <;> rfl, by rw [hz.2]; trivial⟩
  · have hx : ObjOk X.prog X.w H s.heap dd (.xd fs) := I.hok dd _ ea
    obtain ⟨mA, hns, hr⟩ := hx
    obtain ⟨od, ho, hl⟩ := lookIn_ns hns
    exact ⟨some od, hget, hz.1, by unfold PySem.W.notCls; rw [hv] <;> rfl, by rw [hz.2]; exact ho⟩
theorem call_isX (hz : Zc cls dx oe) (hf : ∃ vs, oe.data = .fields vs) : CallR (X.suite a ((a, oe) :: pn)) (.builtin "isinstance") (rIsX X.K a cls dx) := by
  intro pins s σ H xs us Q I r h
  obtain ⟨D, c, u, b, rfl, C, hx, rfl, k, e, q⟩ := h
  obtain ⟨u1, u2, rfl, r1, r2⟩ := vals2 r
  have e2 := k.eq r2
  subst e2
  cases (show u1 = Value.ref a from r1)
  obtain ⟨od, J⟩ := inst_of I hz hf hx
  exact PySem.W.kia_one (PySem.W.kitx_exc C.cl C.ga C.gg C.sub C.ha C.hn C.tk C.mr) I.kIn J e (fun z => nomatch z) fun tk => ⟨.bl b, H, I.kept (t' := tk) fun _ _ z => z, rfl, q⟩
theorem call_isXT (hz : Zc cls dx oe) (hf : ∃ vs, oe.data = .fields vs) : CallR (X.suite a ((a, oe) :: pn)) (.builtin "isinstance") (rIsXT X.K a cls dx) := by
  intro pins s σ H xs us Q I r h
  obtain ⟨D, tp, cs, ws, b, rfl, C, hx, rfl, hT, k, e, q⟩ := h
  obtain ⟨u1, u2, rfl, r1, r2⟩ := vals2 r
  cases (show u2 = Value.ref tp from r2)
  cases (show u1 = Value.ref a from r1)
  obtain ⟨od, J⟩ := inst_of I hz hf hx
  obtain ⟨_, its, rv, o, h1, h2, n, h3⟩ := (show ObjOk X.prog X.w H s.heap tp (.tup cs) from I.hok tp _ hT)
  have e3 := ClsV.all k rv
  subst e3
  obtain ⟨oc, od', dt, sl⟩ := o
  simp only at h2 h3
  subst h2 h3
  exact PySem.W.kia_tup (PySem.W.kitx_exc C.cl C.ga C.gg C.sub C.ha C.hn C.tk C.mr) I.kIn J h1 e (fun z => nomatch z) fun tk => ⟨.bl b, H, I.tok tk, rfl, q⟩
/-- a class by its name: of the module, or a built-in type -/
structure NC (X : Cx) (x : Str) (u : Value) : Prop where
  ex : (∃ C, X.mg x = some (.ref C) ∧ u = .ref C) ∨ (∃ n, X.mg x = none ∧ bootBuiltins x = some (.type n) ∧ x ≠ "__name__" ∧ u = .type n)
theorem NC.pe {x : Str} {u : Value} {pos : Pos} (h : NC X x u) (hg : Gl X x) (hd : (x == ("__debug__" : Str)) = false) : ∃ v, ClsV v u ∧ PE X (.Name x pos) (tC v) := by
  rcases h.ex with ⟨C, h1, rfl⟩ | ⟨n, h1, h2, h3, rfl⟩
  · exact ⟨.ref C, .own C, pe_glob hg h1 rfl hd⟩
  · exact ⟨.ty n, .ty n, pe_bltn (v := .ty n) hg h1 h2 rfl h3 hd⟩
theorem NC.own {x : Str} {C : Addr} (h : X.mg x = some (.ref C)) : NC X x (.ref C) := ⟨.inl ⟨C, h, rfl⟩⟩
theorem NC.ty {x : Str} {n : String} (h : X.mg x = none) (hv : bootBuiltins x = some (.type n)) (hn : x ≠ "__name__" := by decide) : NC X x (.type n) := ⟨.inr ⟨n, h, hv, hn, rfl⟩⟩
/-- several -/
structure NCs (X : Cx) (es : List Expr) (us : List Value) : Prop where
  ex : ∃ vs, Paired ClsV vs us ∧ us.length = es.length ∧ PA X es (fun _ H Q => Q vs H)
theorem NCs.nil : NCs X [] [] := ⟨[], .nil, rfl, pa_nil⟩
theorem NCs.cons {x : Str} {u : Value} {pos : Pos} {es : List Expr} {us : List Value} (h : NC X x u) (k : NCs X es us) (hg : Gl X x := by rfl) (hd : (x == ("__debug__" : Str)) = false := by decide)
    (he : starEach (.Name x pos :: es) X.env = (false, eval (.Name x pos) X.env) :: starEach es X.env := by rfl) : NCs X (.Name x pos :: es) (u :: us) := by
  obtain ⟨v, h1, h2⟩ := h.pe (pos := pos) hg hd
  obtain ⟨vs, k1, k2, k3⟩ := k
  exact ⟨v :: vs, .cons h1 k1, by rw [List.length_cons, List.length_cons, k2], pa_cons h2 k3 he⟩
end
section
variable {cl : Cl} {X : Cx} {a : Addr} {oe : Obj} {cls : Value} {dx : Option Addr} {pn : List (Addr × Obj)} {e : Expr} {p : P.Ex1} {d : Nat} {W : WX} {tk : Nat → Option Bool} {pos p1 p2 : Pos} {x : Str}
theorem de_isX {u : Value} (hm : X.mg "isinstance" = none) (hc : NC X x u) (htk : ∀ n b, tk n = some b → IsC X.K (cl.f n) ∧ PySem.W.kitOne X.K (.ref (cl.f n)) u = some b) (hz : Zc cls dx oe) (hf : ∃ vs, oe.data = .fields vs)
    (h : DE (cl.hold (a, cls, dx)) (X.suite a ((a, oe) :: pn)) d W e p) (hd : (x == ("__debug__" : Str)) = false := by decide) (hg : Gl X "isinstance" := by rfl) (hg2 : Gl X x := by rfl)
    (he : starEach [e, .Name x p2] X.env = (false, eval e X.env) :: starEach [.Name x p2] X.env := by rfl) (he2 : starEach [.Name x p2] X.env = (false, eval (.Name x p2) X.env) :: starEach [] X.env := by rfl) (hpl : (backTo pos (starEach [.Name x p2] X.env)).any (·.1) = false := by rfl) :
    DE (cl.hold (a, cls, dx)) (X.suite a ((a, oe) :: pn)) d W (.Call (.Name "isinstance" p1) [e, .Name x p2] [] pos) (P.un (T.isx tk) p) := by
  obtain ⟨te, a1, a2⟩ := h
  obtain ⟨v, hv, hp⟩ := (show NC (X.suite a ((a, oe) :: pn)) x u from ⟨hc.ex⟩).pe (pos := p2) hg2 hd
  refine ⟨_, pe_callB (call_isX (X := X) hz hf) hg hm (by decide +kernel) (pa_cons a1 (pa_cons hp pa_nil he2) he) (by decide) (by decide) he hpl, fun A env σ F H Q R e o => a2 A env σ F H _ R e (Outg.bind o fun y w F1 H1 g1 rx o1 => ?_)⟩
  unfold T.isx at o1
  cases y with
  | exn c ns ts =>
    simp only at o1
    cases q : tk c with
    | none => rw [q] at o1; exact o1.elim
    | some b =>
      rw [q] at o1
      obtain ⟨a', cls', dx', e1, e2, e3, e4⟩ := rx
      have e1' : some (a, cls, dx) = some (a', cls', dx') := e1
      simp only [Option.some.injEq, Prod.mk.injEq] at e1'
      obtain ⟨ea, ec, ed⟩ := e1'
      subst ea ed e2
      obtain ⟨k1, k2⟩ := htk c b q
      refine ⟨_, v, u, b, ec.trans e3, k1, ?_, rfl, hv, k2, Out.here o1 g1.sub rfl⟩
      rcases e4 with ⟨_, _, e5⟩ | ⟨dd, vs, e5, e6, _⟩
      · exact .inl e5
      · exact .inr ⟨dd, _, e5, g1.sub _ _ e6⟩
  | _ => exact o1.elim
end
section
variable {cl : Cl} {X : Cx} {a : Addr} {oe : Obj} {cls : Value} {dx : Option Addr} {pn : List (Addr × Obj)} {e : Expr} {cs : List Expr} {p : P.Ex1} {d : Nat} {W : WX} {tk : Nat → Option Bool} {pos p1 p2 : Pos} {x : Str}
theorem paired_length {α β : Type} {F : α → β → Prop} : ∀ {xs : List α} {ys : List β}, Paired F xs ys → xs.length = ys.length
  | _, _, .nil => rfl
  | _, _, .cons _ k => by rw [List.length_cons, List.length_cons, paired_length k]
theorem de_isXT {us : List Value} {x1 : Nat} (hm : X.mg "isinstance" = none) (hc : NCs (X.suite a ((a, oe) :: pn)) cs us) (htk : ∀ n b, tk n = some b → IsC X.K (cl.f n) ∧ PySem.W.kitAny X.K (.ref (cl.f n)) us = some b) (hz : Zc cls dx oe) (hf : ∃ vs, oe.data = .fields vs)
    (h : DE (cl.hold (a, cls, dx)) (X.suite a ((a, oe) :: pn)) d W e p) (hlen : cs.length ≤ 1000 := by decide) (hg : Gl X "isinstance" := by rfl)
    (he : starEach [e, .Tuple cs x1 p2] X.env = (false, eval e X.env) :: starEach [.Tuple cs x1 p2] X.env := by rfl) (he2 : starEach [.Tuple cs x1 p2] X.env = (false, eval (.Tuple cs x1 p2) X.env) :: starEach [] X.env := by rfl) (hpl : (backTo pos (starEach [.Tuple cs x1 p2] X.env)).any (·.1) = false := by rfl) :
    DE (cl.hold (a, cls, dx)) (X.suite a ((a, oe) :: pn)) d W (.Call (.Name "isinstance" p1) [e, .Tuple cs x1 p2] [] pos) (P.un (T.isx tk) p) := by
  obtain ⟨te, a1, a2⟩ := h
  obtain ⟨vs, hv, hl, hp⟩ := hc
  refine ⟨_, pe_callB (call_isXT (X := X) hz hf) hg hm (by decide +kernel) (pa_cons a1 (pa_cons (pe_tup hp) pa_nil he2) he) (by decide) (by decide) he hpl, fun A env σ F H Q R e o => a2 A env σ F H _ R e (Outg.bind o fun y w F1 H1 g1 rx o1 => ?_)⟩
  unfold T.isx at o1
  cases y with
  | exn c ns ts =>
    simp only at o1
    cases q : tk c with
    | none => rw [q] at o1; exact o1.elim
    | some b =>
      rw [q] at o1
      obtain ⟨a', cls', dx', e1, e2, e3, e4⟩ := rx
      have e1' : some (a, cls, dx) = some (a', cls', dx') := e1
      simp only [Option.some.injEq, Prod.mk.injEq] at e1'
      obtain ⟨ea, ec, ed⟩ := e1'
      subst ea ed e2
      obtain ⟨k1, k2⟩ := htk c b q
      refine ⟨?_, fun q' hq => ?_⟩
      · rw [paired_length hv, hl]; exact Nat.le_trans hlen (by decide)
      · have gj : Grow F1 H1 F1 (upd H1 q' (.tup vs)) := Grow.junk g1.sub hq
        refine ⟨_, q', vs, us, b, ec.trans e3, k1, ?_, rfl, upd_same, hv, k2, Out.here (Outg.step gj o1) gj.sub rfl⟩
        rcases e4 with ⟨_, _, e5⟩ | ⟨dd, ws, e5, e6, _⟩
        · exact .inl e5
        · exact .inr ⟨dd, _, e5, gj.sub _ _ e6⟩
  | _ => exact o1.elim
end

/-! ### e.f -/
def T.xf (c : Nat) (f : Str) : T → Option T
  | .exn c' ns ts => if c' = c then (ns.zip ts).lookup f else none
  | _ => none
theorem zip_lookup {G : Ge} {A : Al} {F : Hp} {f : Str} : ∀ {ns : List Str} {ts : List T} {vs : List V} {t : T}, reps G A F ts vs → (ns.zip ts).lookup f = some t → ∃ v, (ns.zip vs).lookup f = some v ∧ rep G A F t v
  | [], _, _, _, _, h => by cases h
  | _ :: _, [], _, _, _, h => by cases h
  | n :: ns, t :: ts, vs, u, ⟨v, ws, e1, e2, e3⟩, h => by
    subst e1
    rw [List.zip_cons_cons, List.lookup_cons] at h ⊢
    cases q : (f == n) with
    | true => rw [q] at h; cases h; exact ⟨v, rfl, e2⟩
    | false => rw [q] at h; exact zip_lookup e3 h
section
variable {cl : Cl} {X : Cx} {a : Addr} {oe : Obj} {cls : Value} {dx : Option Addr} {pn : List (Addr × Obj)} {e : Expr} {p : P.Ex1} {d : Nat} {W : WX} {pos : Pos} {n : Str} {c : Nat}
theorem de_xf (C : XfC X.K (cl.f c)) (hno : PySem.W.findIn X.K (.ref (cl.f c)) n = some none) (hz : Zc cls dx oe) (hf : ∃ vs, oe.data = .fields vs) (h : DE (cl.hold (a, cls, dx)) (X.suite a ((a, oe) :: pn)) d W e p) (hb : attributeBase e n X.env (eval e X.env) = eval e X.env := by rfl) :
    DE (cl.hold (a, cls, dx)) (X.suite a ((a, oe) :: pn)) d W (.Attribute e n pos) (P.un (T.xf c n) p) := by
  obtain ⟨te, a1, a2⟩ := h
  refine ⟨_, pe_xf (X := X) C hno hz hf a1 hb, fun A env σ F H Q R e o => a2 A env σ F H _ R e (Outg.bind o fun y w F1 H1 g1 rx o1 => ?_)⟩
  unfold T.xf at o1
  cases y with
  | exn c' ns ts =>
    simp only at o1
    split at o1
    · rename_i hcc
      subst hcc
      cases q : (ns.zip ts).lookup n with
      | none => rw [q] at o1; exact o1.elim
      | some t =>
        rw [q] at o1
        obtain ⟨a', cls', dx', e1, e2, e3, e4⟩ := rx
        have e1' : some (a, cls, dx) = some (a', cls', dx') := e1
        simp only [Option.some.injEq, Prod.mk.injEq] at e1'
        obtain ⟨ea, ec, ed⟩ := e1'
        subst ea ed e2
        rcases e4 with ⟨e5, _, _⟩ | ⟨dd, vs, e5, e6, e7, e8⟩
        · subst e5; cases q
        · obtain ⟨v, hv, rv⟩ := zip_lookup e8 q
          exact ⟨rfl, ec.trans e3, dd, _, v, e5, g1.sub _ _ e6, hv, Out.here o1 g1.sub rv⟩
    · exact o1.elim
  | _ => exact o1.elim
end
end Py

set_option Elab.async false
set_option linter.all false
set_option maxRecDepth 100000
set_option maxHeartbeats 4000000
namespace Py
open PySem L2 PySem.Spec PyProof.Rows Evl

/-! ### min of four whole numbers -/
theorem args_four (a b c d : Value) : PySem.argsOk "min" ⟨[a, b, c, d], []⟩ := by unfold PySem.argsOk; kernel_rfl
section
variable {prog : Program} {w : World} {A : Around} {E : Value → Shared → Prop} {s : Shared}
theorem call_four {a b c d : Value} {Q : Value → Shared → Prop}
    (h : wpAny (model prog w) A.in1 (pyIter (.ref s.heap.objs.size)) (fun it s₂ => ∃ I fp wr n P St bt, it = .ref I ∧ Walks prog w A.in1 I fp wr n P St ∧ St 0 s₂.heap ∧ (∀ b ∈ fp, b < s₂.heap.objs.size) ∧ 0 < n ∧ CmpOf prog w A.in1 .Lt P bt ∧
      ∀ v h' tk, P (argBest bt (n - 1)) v → (∀ b o, b ∉ wr → s₂.heap.get? b = some o → h'.get? b = some o) → Q v { s₂ with heap := h', toks := tk }) E
      { s with heap := s.heap.push { cls := .type "tuple", data := .seq #[a, b, c, d] } }) :
    wpAny (model prog w) A (call (.builtin "min") [a, b, c, d]) Q E s := by
  have hname : (toString "min" ++ toString ".loop" : String) = "min.loop" := by decide
  refine call_function_tree F.kind_min F.plain_min F.entry_min (args_four _ _ _ _) ?_
  show wpAny _ A.in1 (Builtin.Builtins.bindParams "min" ["key", "default"] 0 ⟨[], []⟩ >>= _) _ _ s
  refine wpAny_bind (wpAny_of_eq (show Builtin.Builtins.bindParams "min" ["key", "default"] 0 ⟨[], []⟩ = pure [none, none] from rfl) ?_)
  show wpAny _ A.in1 (newTuple [a, b, c, d] >>= _) _ _ s
  refine wpAny_bind (wpAny_newObj_type (wpAny_bind (wpAny_mono h (fun it s₂ h₂ => ?_) fun _ _ e => e)))
  obtain ⟨I, fp, wr, n, P, St, bt, rfl, W, hst, hfp, hn, hcmp, hQ⟩ := h₂
  have hSf : s₂.heap.objs.size ∉ fp := fun hm => Nat.lt_irrefl _ (hfp _ hm)
  refine wpAny_bind (wpAny_newObj_type ?_)
  rw [hname]
  refine wpAny_pure ⟨plainId_quiet F.plain_min_loop _, codeAny_min_loop_first W bt hcmp s₂.heap.objs.size hSf hn (W.frame _ _ _ hst fun b _ o e => Heap.get?_push_of_some _ e) (Heap.get?_push_size _ rfl) fun v h' tk hP hk => ?_⟩
  exact hQ v h' tk hP fun b o hbw e => hk b o hbw (Nat.ne_of_lt (Heap.lt_size e)) (Heap.get?_push_of_some _ e)
def mn4 (a b c d : Int) : Int := min (min (min a b) c) d
theorem min_four {a b c d : Int} {t u x y : Tok} {Q : Value → Shared → Prop} (hh : A.handled = none)
    (h : ∀ h' tk tt, (∀ d o, s.heap.get? d = some o → h'.get? d = some o) → Q (.int (mn4 a b c d) tt) { s with heap := h', toks := tk }) :
    wpAny (model prog w) A (call (.builtin "min") [.int a t, .int b u, .int c x, .int d y]) Q E s := by
  have hT : (s.heap.push { cls := .type "tuple", data := .seq #[.int a t, .int b u, .int c x, .int d y] }).IsTuple s.heap.objs.size (intItems #[(a, t), (b, u), (c, x), (d, y)]) := ⟨_, Heap.get?_push_size _ rfl, rfl, 0, by simp [intItems]⟩
  refine call_four (wpAny_pyIter_tuple hT ?_)
  have hsz : (s.heap.push { cls := .type "tuple", data := .seq #[.int a t, .int b u, .int c x, .int d y] }).objs.size = s.heap.objs.size + 1 := Heap.size_push ..
  refine ⟨_, [_, s.heap.objs.size], [_], _, _, _, _, rfl, Walks.tuple (A := A.in1) hh _ s.heap.objs.size (by rw [hsz]; exact Nat.ne_of_lt (Nat.lt_succ_self _)) (intItems #[(a, t), (b, u), (c, x), (d, y)]),
    ⟨⟨_, Heap.get?_push_size _ rfl, rfl, rfl⟩, hT.push _⟩, fun q hq => ?_, by simp [intItems], CmpOf.ints_lt (numAt #[(a, t), (b, u), (c, x), (d, y)]) (fun _ _ => intItems_at), fun v h' tk hP hk => ?_⟩
  · show q < ((s.heap.push _).push _).objs.size
    rw [Heap.size_push, hsz]
    rcases List.mem_cons.mp hq with rfl | hq
    · rw [hsz]; exact Nat.lt_succ_self _
    · rcases List.mem_cons.mp hq with rfl | hq
      · exact Nat.lt_succ_of_lt (Nat.lt_succ_self _)
      · cases hq
  · have hold : ∀ q o, s.heap.get? q = some o → h'.get? q = some o := fun q o e => by
      refine hk q o (fun hm => ?_) (Heap.get?_push_of_some _ (Heap.get?_push_of_some _ e))
      rcases List.mem_cons.mp hm with e1 | hm
      · have := Heap.lt_size e; rw [e1, hsz] at this; exact Nat.lt_irrefl _ (Nat.lt_of_succ_lt this)
      · cases hm
    have hP' : (intItems #[(a, t), (b, u), (c, x), (d, y)])[argBest (fun i j => decide (numAt #[(a, t), (b, u), (c, x), (d, y)] i < numAt #[(a, t), (b, u), (c, x), (d, y)] j)) 3]? = some v := by
      have hsz2 : (intItems #[(a, t), (b, u), (c, x), (d, y)]).size - 1 = 3 := by simp [intItems]
      rw [← hsz2]; exact hP
    have hv : ∃ tt, v = .int (mn4 a b c d) tt := by
      have g : ∀ (i : Nat) (z : Int) (tz : Tok), argBest (fun i j => decide (numAt #[(a, t), (b, u), (c, x), (d, y)] i < numAt #[(a, t), (b, u), (c, x), (d, y)] j)) 3 = i → (intItems #[(a, t), (b, u), (c, x), (d, y)])[i]? = some (.int z tz) → mn4 a b c d = z → ∃ tt, v = .int (mn4 a b c d) tt := fun i z tz e1 e2 e3 => by
        rw [e1, e2] at hP'
        exact ⟨tz, by rw [e3]; exact (Option.some.inj hP').symm⟩
      by_cases h1 : b < a
      · by_cases h2 : c < b
        · by_cases h3 : d < c
          · exact g 3 d y (by simp [argBest, numAt, h1, h2, h3]) (by simp [intItems]) (by unfold mn4; omega)
          · exact g 2 c x (by simp [argBest, numAt, h1, h2, h3]) (by simp [intItems]) (by unfold mn4; omega)
        · by_cases h3 : d < b
          · exact g 3 d y (by simp [argBest, numAt, h1, h2, h3]) (by simp [intItems]) (by unfold mn4; omega)
          · exact g 1 b u (by simp [argBest, numAt, h1, h2, h3]) (by simp [intItems]) (by unfold mn4; omega)
      · by_cases h2 : c < a
        · by_cases h3 : d < c
          · exact g 3 d y (by simp [argBest, numAt, h1, h2, h3]) (by simp [intItems]) (by unfold mn4; omega)
          · exact g 2 c x (by simp [argBest, numAt, h1, h2, h3]) (by simp [intItems]) (by unfold mn4; omega)
        · by_cases h3 : d < a
          · exact g 3 d y (by simp [argBest, numAt, h1, h2, h3]) (by simp [intItems]) (by unfold mn4; omega)
          · exact g 0 a t (by simp [argBest, numAt, h1, h2, h3]) (by simp [intItems]) (by unfold mn4; omega)
    obtain ⟨tt, rfl⟩ := hv
    exact h h' tk tt hold
end
def B.min4 : List T → Option T
  | [.int a, .int b, .int c, .int d] => some (.int (mn4 a b c d))
  | _ => none
section
variable {cl : Cl} {X : Cx}
theorem call_min4 (hc : X.calm = true) : CallR X (.builtin "min") (fun xs H Q => ∃ i j k l, xs = [.int i, .int j, .int k, .int l] ∧ Q (.int (mn4 i j k l)) H) := by
  intro pins s σ H xs us Q I r h
  obtain ⟨i, j, k, l, rfl, q⟩ := h
  cases r with
  | cons r1 r => cases r with
    | cons r2 r => cases r with
      | cons r3 r => cases r with
        | cons r4 r =>
          cases r
          obtain ⟨t1, rfl⟩ := r1
          obtain ⟨t2, rfl⟩ := r2
          obtain ⟨t3, rfl⟩ := r3
          obtain ⟨t4, rfl⟩ := r4
          exact min_four (I.ok.hd hc) fun h' tk tt kk => ⟨.int (mn4 i j k l), H, I.kept kk, ⟨_, rfl⟩, q⟩
theorem crd_min4 (hc : X.calm = true) : CRd cl X (.builtin "min") B.min4 := ⟨_, call_min4 hc, fun A F H Q E ts vs ok e r o => by
  unfold B.min4 at o
  split at o
  · obtain ⟨v1, ws, rfl, r1, r⟩ := r
    obtain ⟨v2, ws, rfl, r2, r⟩ := r
    obtain ⟨v3, ws, rfl, r3, r⟩ := r
    obtain ⟨v4, ws, rfl, r4, r⟩ := r
    cases (show ws = [] from r)
    cases r1; cases r2; cases r3; cases r4
    exact ⟨_, _, _, _, rfl, Out.here o e rfl⟩
  · exact o.elim⟩
end

/-! ### errors' __init__ -/
section
variable {cl : Cl} {P : Program} {w : World} {K : PySem.W.Frag} {mg : Str → Option Value} {base : Heap} {x qual f1 f2 p1 p2 : Str} {params : Arguments} {body : List Stmt} {scope : Scope} {fI : Addr} {fd : FuncData} {c : Nat}
theorem xok1 {N : List Str} (F : FunD K "__init__" qual params body scope [] [] fI fd) (S : FnScope N ["self", p1] scope) (T : OexC K (cl.f c)) (iC : PySem.W.findIn K (.ref (cl.f c)) "__init__" = some (some (.ref fI))) (tI : PySem.W.typeIn K (.ref fI) = some (.type "function"))
    (n1 : PySem.W.findIn K (.ref (cl.f c)) f1 = some none) (hm : mg x = some (.ref (cl.f c))) (hN : N.length = 2)
    (hb : ∀ (kV doc pm : Value) (an : Option Addr) (cdv ct : Value) (us : List Value), us.length = 2 → bindArgs (PySem.W.fnOf "__init__" qual params body scope .none kV doc pm an cdv ct) ⟨us, []⟩ = pure ((["self", p1] : List Str).zip us))
    (h : ∀ (cdv : Value) (A : Around) (outer : List Env) (s : Shared) (H : Hp) (E : XK), PSs (XOf P w K mg base N qual scope fI cdv A outer s H E) body (tOst K f1 (tVar 0) (tVar 1))) : Xok cl P w K mg base x c [f1] := by
  refine ⟨⟨fI, fd, ["self", p1], 1, T, iC, tI, ?_, F.bindsN hb, hm, rfl⟩⟩
  refine F.ok S (fun vs H Q E h => ?_) (fun cdv A outer s H vs Q E hr hsp => ⟨_, h cdv A outer s H E, ?_⟩)
  · obtain ⟨a, ws, rfl, hl, _⟩ := h
    rw [List.length_cons, hl] <;> rfl
  · obtain ⟨a, ws, rfl, hl, ha, hQ⟩ := hsp
    match ws, hl with
    | [y], _ =>
      match N, hN with
      | [_, _], _ =>
        refine rd_ost1 rfl rfl T n1 ha fun dx hd hne => ?_
        refine hQ dx _ hd hne upd_same ?_ (fun b h1 h2 => by rw [upd_ne h1, upd_ne h2])
        rw [upd_ne hne, upd_same]
        rfl
theorem xok2 {N : List Str} (F : FunD K "__init__" qual params body scope [] [] fI fd) (S : FnScope N ["self", p1, p2] scope) (T : OexC K (cl.f c)) (iC : PySem.W.findIn K (.ref (cl.f c)) "__init__" = some (some (.ref fI))) (tI : PySem.W.typeIn K (.ref fI) = some (.type "function"))
    (n1 : PySem.W.findIn K (.ref (cl.f c)) f1 = some none) (n2 : PySem.W.findIn K (.ref (cl.f c)) f2 = some none) (hm : mg x = some (.ref (cl.f c))) (hN : N.length = 3)
    (hb : ∀ (kV doc pm : Value) (an : Option Addr) (cdv ct : Value) (us : List Value), us.length = 3 → bindArgs (PySem.W.fnOf "__init__" qual params body scope .none kV doc pm an cdv ct) ⟨us, []⟩ = pure ((["self", p1, p2] : List Str).zip us))
    (h : ∀ (cdv : Value) (A : Around) (outer : List Env) (s : Shared) (H : Hp) (E : XK), PSs (XOf P w K mg base N qual scope fI cdv A outer s H E) body (tSeq (tOst K f1 (tVar 0) (tVar 1)) (tOst K f2 (tVar 0) (tVar 2)))) : Xok cl P w K mg base x c [f1, f2] := by
  refine ⟨⟨fI, fd, ["self", p1, p2], 1, T, iC, tI, ?_, F.bindsN hb, hm, rfl⟩⟩
  refine F.ok S (fun vs H Q E h => ?_) (fun cdv A outer s H vs Q E hr hsp => ⟨_, h cdv A outer s H E, ?_⟩)
  · obtain ⟨a, ws, rfl, hl, _⟩ := h
    rw [List.length_cons, hl] <;> rfl
  · obtain ⟨a, ws, rfl, hl, ha, hQ⟩ := hsp
    match ws, hl with
    | [y, z], _ =>
      match N, hN with
      | [_, _, _], _ =>
        refine rd_ost1 rfl rfl T n1 ha fun dx hd hne => ?_
        refine rd_ost2 rfl rfl T n2 upd_same (by rw [upd_ne hne, upd_same]) (Nat.le_of_ble_eq_true rfl) ?_
        refine hQ dx _ hd hne ?_ ?_ (fun b h1 h2 => by rw [upd_ne h2, upd_ne h1, upd_ne h2])
        · rw [upd_ne (Ne.symm hne), upd_same]
        · rw [upd_same]
          rfl
end
end Py

set_option Elab.async false
set_option linter.all false
set_option maxRecDepth 100000
set_option maxHeartbeats 4000000
namespace Py
open PySem L2 PySem.Spec PyProof.Rows Evl He

/-! ### a hook with facts of one's own -/
abbrev XF := PySem.W.Frag → Bool
def obsX (fa : List Fa) (fn : List DefD) (xs : List XF) (K : PySem.W.Frag) : AlD := (((fa.all fun f => f.ok K) && fn.all fun d => d.ok K) && xs.all fun x => x K, fn.map fun d => fnW K d.at_)
def SaysX (fa : List Fa) (fn : List DefD) (xs : List XF) (K : PySem.W.Frag) : Prop := obsX fa fn xs K = valD fn
def obsXG (n : Nat) (fa : List Fa) (fn : List DefD) (xs : List XF) (g : Addr → Option Obj) : AlD := obsX fa fn xs (frG g (asD g n))
def hookX (n : Nat) (fa : List Fa) (fn : List DefD) (xs : List XF) : PySem.W.Hook where
  α := AlD
  obs := fun s => obsXG n fa fn xs s.heap.get?
  val := fun _ => valD fn
  says := fun _ h => ∃ K : PySem.W.Frag, K.In h ∧ SaysX fa fn xs K
  of := fun _ _ e => ⟨_, frG_in, e⟩
  keeps := fun _ _ _ ⟨K, hK, c⟩ k => ⟨K, PySem.W.Frag.In.keeps hK k, c⟩
theorem obsXG_eq {n : Nat} {fa : List Fa} {fn : List DefD} {xs : List XF} {g : Addr → Option Obj} {s : Shared} (h : ∀ a, g a = s.heap.get? a) : obsXG n fa fn xs g = (hookX n fa fn xs).obs s := by
  have e : g = s.heap.get? := funext h
  rw [e] <;> rfl
section
variable {fa : List Fa} {fn : List DefD} {xs : List XF} {K : PySem.W.Frag}
theorem SaysX.d (c : SaysX fa fn xs K) : SaysD fa fn K := by
  have e1 : (((fa.all fun f => f.ok K) && fn.all fun d => d.ok K) && xs.all fun x => x K) = true := congrArg (fun z : AlD => z.1) c
  have e2 : fn.map (fun d => fnW K d.at_) = fn.map DefD.val := congrArg (fun z : AlD => z.2) c
  exact Prod.ext (ba e1).1 e2
theorem SaysX.fact (c : SaysX fa fn xs K) (i : Nat) {f : Fa} (h : fa[i]? = some f := by rfl) : f.ok K = true := c.d.fact i h
theorem SaysX.def_ (c : SaysX fa fn xs K) (i : Nat) {d : DefD} (h : fn[i]? = some d := by rfl) : ∃ fd, FunD K d.name d.qual d.params d.body d.scope (d.dvs K) (d.kws K) (fAd K d.at_) fd := c.d.def_ i h
theorem SaysX.x (c : SaysX fa fn xs K) (i : Nat) {f : XF} (h : xs[i]? = some f := by rfl) : f K = true := by
  have e1 : (((fa.all fun f => f.ok K) && fn.all fun d => d.ok K) && xs.all fun x => x K) = true := congrArg (fun z : AlD => z.1) c
  exact List.all_eq_true.mp (ba e1).2 f (List.mem_of_getElem? h)
end
/-! ### the classes by numbers -/
def clOf (ns : List Str) (K : PySem.W.Frag) : Cl := ⟨fun n => ga K (ns.getD n ""), none, none⟩
/-- what the names of a module's error classes say -/
def excB (x : Str) (K : PySem.W.Frag) : Bool := oexB K (ga K x) && (isB K (ga K x) && xfB K (ga K x))
def iniB (x : Str) (K : PySem.W.Frag) : Bool := eqO (PySem.W.findIn K (.ref (ga K x)) "__init__") (some (some (.ref (ma K (ga K x) "__init__")))) && decide (PySem.W.typeIn K (.ref (ma K (ga K x) "__init__")) = some (.type "function"))
theorem excB_ok {x : Str} {K : PySem.W.Frag} (h : excB x K = true) : OexC K (ga K x) ∧ IsC K (ga K x) ∧ XfC K (ga K x) := by
  obtain ⟨h1, h⟩ := ba h
  obtain ⟨h2, h3⟩ := ba h
  exact ⟨oexB_ok h1, isB_ok h2, xfB_ok h3⟩
theorem iniB_ok {x : Str} {K : PySem.W.Frag} (h : iniB x K = true) : PySem.W.findIn K (.ref (ga K x)) "__init__" = some (some (.ref (fAd K (x, some "__init__")))) ∧ PySem.W.typeIn K (.ref (fAd K (x, some "__init__"))) = some (.type "function") := by
  obtain ⟨h1, h2⟩ := ba h
  exact ⟨eqO_ok h1, of_decide_eq_true h2⟩
/-- the class y (or the built-in type y) in an except clause, asked of each class of the list: tab tells the answers -/
def clsV (own : Bool) (y : Str) (K : PySem.W.Frag) : Value := if own then .ref (ga K y) else .type y.toString
def exmB (ns : List Str) (tab : List (Nat × Bool)) (v : PySem.W.Frag → Value) (K : PySem.W.Frag) : Bool := tab.all fun p => decide (PySem.W.exmOne K (.ref (ga K (ns.getD p.1 ""))) (v K) = some p.2)
def kitsB (ns : List Str) (tab : List (Nat × Bool)) (v : PySem.W.Frag → Value) (K : PySem.W.Frag) : Bool := tab.all fun p => isB K (ga K (ns.getD p.1 "")) && decide (PySem.W.kitOne K (.ref (ga K (ns.getD p.1 ""))) (v K) = some p.2)
def kitaB (ns : List Str) (tab : List (Nat × Bool)) (v : PySem.W.Frag → List Value) (K : PySem.W.Frag) : Bool := tab.all fun p => isB K (ga K (ns.getD p.1 "")) && decide (PySem.W.kitAny K (.ref (ga K (ns.getD p.1 ""))) (v K) = some p.2)
theorem mem_lookup {tab : List (Nat × Bool)} {n : Nat} {b : Bool} (h : tab.lookup n = some b) : (n, b) ∈ tab := by
  induction tab with
  | nil => cases h
  | cons p t ih =>
    obtain ⟨m, c⟩ := p
    rw [List.lookup_cons] at h
    cases q : (n == m) with
    | true =>
      rw [q] at h
      cases h
      rw [eq_of_beq q]
      exact List.mem_cons_self
    | false =>
      rw [q] at h
      exact List.mem_cons_of_mem _ (ih h)
theorem exmB_ok {ns : List Str} {tab : List (Nat × Bool)} {v : PySem.W.Frag → Value} {K : PySem.W.Frag} (h : exmB ns tab v K = true) : ∀ n b, tab.lookup n = some b → PySem.W.exmOne K (.ref ((clOf ns K).f n)) (v K) = some b := fun n b e =>
  of_decide_eq_true (List.all_eq_true.mp h _ (mem_lookup e))
theorem kitsB_ok {ns : List Str} {tab : List (Nat × Bool)} {v : PySem.W.Frag → Value} {K : PySem.W.Frag} (h : kitsB ns tab v K = true) : ∀ n b, tab.lookup n = some b → IsC K ((clOf ns K).f n) ∧ PySem.W.kitOne K (.ref ((clOf ns K).f n)) (v K) = some b := fun n b e => by
  obtain ⟨h1, h2⟩ := ba (List.all_eq_true.mp h _ (mem_lookup e))
  exact ⟨isB_ok h1, of_decide_eq_true h2⟩
theorem kitaB_ok {ns : List Str} {tab : List (Nat × Bool)} {v : PySem.W.Frag → List Value} {K : PySem.W.Frag} (h : kitaB ns tab v K = true) : ∀ n b, tab.lookup n = some b → IsC K ((clOf ns K).f n) ∧ PySem.W.kitAny K (.ref ((clOf ns K).f n)) (v K) = some b := fun n b e => by
  obtain ⟨h1, h2⟩ := ba (List.all_eq_true.mp h _ (mem_lookup e))
  exact ⟨isB_ok h1, of_decide_eq_true h2⟩
/-- a method's text -/
def mth (st : Stmt) (j : Nat) : Stmt := match st with
  | .ClassDef _ _ _ b _ _ _ _ _ _ _ => b.getD j (.Pass ⟨0, 0, 0, 0⟩)
  | _ => .Pass ⟨0, 0, 0, 0⟩
/-! ### the end -/
theorem reps_ints {G : Ge} {A : Al} {F : Hp} : ∀ ns : List Int, reps G A F (ns.map T.int) (ns.map V.int)
  | [] => rfl
  | n :: ns => ⟨.int n, ns.map V.int, rfl, rfl, reps_ints ns⟩
/-- what the law's def says of a script -/
theorem law_end {G : Ge} {f : Nat → List T → Res T} {H : Hp} {a : Addr} {ns : List Int} (hf : f 1 [.ro (ns.map T.int)] = .ok (.bl true)) (hS : SqL G.K H a (ns.map V.int)) : spT G 1 f [.ref a] H (fun v _ => v = .bl true) (fun _ _ _ => False) := by
  refine ⟨rfl, 1, fun _ => none, H, [.ro (ns.map T.int)], ⟨fun _ _ _ z _ => (nomatch z), fun _ _ z => (nomatch z)⟩, fun _ _ z => (nomatch z), Ex.refl _, ⟨_, [], rfl, ⟨a, _, rfl, hS, reps_ints ns⟩, rfl⟩, ?_⟩
  rw [hf]
  exact fun b F1 H1 _ r => r
/-- a law's end; what it may let out hangs on the world -/
theorem walk_end {l : PySem.W.OpenLaw} {n k : Nat} {q : Program} {loose : List Str} {XP : (Str → Option Value) → Heap → Prop} {YP : World → Heap → Prop} {d : DefRec} {x : Str}
    (hn : l.most = some n) (hn2 : n ≤ sizeLine) (hdf : d.params.defaults = []) (hr : Room k callerA)
    (F : ∀ (w : World) (mg : Str → Option Value) (fa : Addr) (h : Heap), YP w h → h.Ns mainGlobals mg → mg d.name = some (.ref fa) →
      ∃ (K : PySem.W.Frag) (fd : FuncData) (sp : Sp), K.In h ∧ (∀ (s : Shared) (u : Value), BindsTo s fd ⟨[u], []⟩ [(x, u)]) ∧
        (∀ (H : Hp) (a : Addr) (ns : List Int), ns.length ≤ n → (∀ k ∈ ns, Builtin.Int.intBits k ≤ 1048576) → Only H → SqL K H a (ns.map V.int) → sp [.ref a] H (fun v _ => v = .bl true) fun _ _ _ => False) ∧
        ∀ base : Heap, K.In base → base.Ns mainGlobals mg → FnOk l.prog w K mg base (L2.CX l.prog w) k fa fd [x] sp) :
    PySem.W.WalkO q loose XP YP l.row.toRowW d [] (fun f vs => PySem.call f vs) := by
  refine Att.attach_callB hn hdf fun w s₀ s₁ mg mb fa o pm cd doc a vs ns G Y ho hd hcd hmg hobj hints hlen hbits hg => ?_
  obtain ⟨K, fd, sp, KX, hb, hsp, hF⟩ := F w mg fa _ Y G.T.g hmg
  exact law_call KX G.T.g G.T.b G.T.builtins G.T.nolimit hg hobj hints (Nat.le_trans hlen hn2) hr hF hb (fun H hO hS => hsp H a ns hlen hbits hO hS) fun H e s' z => by
    obtain ⟨_, _, _, _, _, _, _, _, _, _, _, _, z⟩ := z
    exact z
end Py

set_option Elab.async false
set_option linter.all false
set_option maxRecDepth 100000
set_option maxHeartbeats 4000000
namespace Py
open PySem L2 PySem.Spec PyProof.Rows Evl

/-! ### more rules of targets, chains, unpacking -/
section
variable {cl : Cl} {X : Cx} {d : Nat} {W : WX} {e e1 e2 e3 : Expr} {es : List Expr} {p q r : P.Ex1} {a : P.Ax} {pos p1 : Pos} {f g : T → T → Option T} {tg : T → Fv → Option Fv} {tgs : List (T → Fv → Option Fv)} {own : List Nat}
theorem dgs_cons (h1 : DG cl X d e tg) (h2 : DGs cl X d es tgs) (hs : (assignEach (e :: es) X.env).map (·.2) = assign e X.env :: (assignEach es X.env).map (·.2) := by rfl) : DGs cl X d (e :: es) (tg :: tgs) := by
  obtain ⟨t, a1, a2⟩ := h1
  obtain ⟨u, b1, b2⟩ := h2
  exact ⟨_, pgs_cons a1 b1 hs, sgs_cons a2 b2⟩
theorem dg_tup {k : Nat} (hc : X.calm = true) (h : DGs cl X d es tgs) (hn : (assignEach es X.env).length = tgs.length := by rfl) (hst : (assignEach es X.env).findIdx? (·.1) = none := by rfl) : DG cl X d (.Tuple es k pos) (S.tTup tgs) := by
  obtain ⟨t, a1, a2⟩ := h
  exact ⟨_, pg_tup hc a1 hn hst, sg_tup a2 rfl⟩
theorem dcs_cons (h1 : DC cl X d own e tg) (h2 : DCs cl X d own es tgs) (hs : (assignEach (e :: es) X.env).map (·.2) = assign e X.env :: (assignEach es X.env).map (·.2) := by rfl) : DCs cl X d own (e :: es) (tg :: tgs) := by
  obtain ⟨t, a1, a2⟩ := h1
  obtain ⟨u, b1, b2⟩ := h2
  exact ⟨_, pgs_cons a1 b1 hs, scs_cons a2 b2⟩
theorem dc_tup {k : Nat} (hc : X.calm = true) (h : DCs cl X d own es tgs) (hn : (assignEach es X.env).length = tgs.length := by rfl) (hst : (assignEach es X.env).findIdx? (·.1) = none := by rfl) : DC cl X d own (.Tuple es k pos) (S.tTup tgs) := by
  obtain ⟨t, a1, a2⟩ := h
  exact ⟨_, pg_tup hc a1 hn hst, sc_tup a2 rfl⟩
theorem ds_unp {tge : Expr} (h : DE cl X d W e p) (hg : DG cl X d tge tg) (hs : swapsWithSole [tge] e pos.line X.env = pure false := by rfl) (hw : swappedStores [tge] e X.env = pure none := by rfl)
    (h1 : (assignEach [tge] X.env).map (·.2) = [assign tge X.env] := by rfl) : DS cl X d W (.Assign [tge] e pos) (S.unp tg p) := by
  obtain ⟨t, a1, a2⟩ := h
  obtain ⟨u, b1, b2⟩ := hg
  exact ⟨_, ps_asg a1 b1 hs hw h1, ss_unp a2 b2⟩
theorem dt_chain {op op' : CmpOp} (ho : OpD X cl (compareOp op) f) (ho' : OpD X cl (compareOp op') g) (h1 : DE cl X d W e1 p) (h2 : DE cl X d W e2 q) (h3 : DE cl X d W e3 r) (hm : lastMarks [op, op'] [e2, e3] = false := by rfl) : DT cl X d W (.Compare e1 [op, op'] [e2, e3] pos) (P.tb (P.chain f g p q r)) := by
  obtain ⟨r1, x1, x2⟩ := ho
  obtain ⟨r2, y1, y2⟩ := ho'
  obtain ⟨t0, a1, a2⟩ := h1
  obtain ⟨t1, b1, b2⟩ := h2
  obtain ⟨t2, c1, c2⟩ := h3
  exact ⟨_, pt_chain x1 y1 a1 b1 c1 hm, st_test (se_chain x2 y2 a2 b2 c2)⟩
end

theorem if_someA {α : Type} {c : Prop} [Decidable c] {x y : α} (h : (if c then some x else none) = some y) : c ∧ x = y := by
  by_cases k : c
  · rw [if_pos k] at h; exact ⟨k, Option.some.inj h⟩
  · rw [if_neg k] at h; cases h
/-! ### new lists: a + b, a * n, list(x) -/
def OpN (G : Ge) (r : R2) (f : T → T → Option (List T)) : Prop := ∀ A F H (Q : VK) x y v w ts, AOk A F → Ex F H → rep G A F x v → rep G A F y w → f x y = some ts → (∀ p vs, reps G A F ts vs → H p = none → Q (.ref p) (upd H p (.lst vs))) → r v w H Q
abbrev SnR (G : Ge) (A : Al) : Hp → List T → Addr × List V → Prop := fun F1 ts b => reps G A F1 ts b.2 ∧ F1 b.1 = none
abbrev SnQ (H : Hp) (Q : VK) : Addr × List V → Hp → Prop := fun b H1 => H b.1 = none → H1 b.1 = some (.lst b.2) → Q (.ref b.1) H1
def P.binN (f : T → T → Option (List T)) (p q : P.Ex1) : Fv → Res (List T) := fun env => (p env).bind fun x => (q env).bind fun y => .of (f x y)
section
variable {G : Ge} {cl : Cl} {X : Cx} {d : Nat} {W : WX} {e e1 e2 : Expr} {p q : P.Ex1} {pos p1 : Pos} {f : T → T → Option (List T)} {ta tb : TE} {r1 : R2}
theorem sn_op (hr : OpN G r1 f) (ha : SE G d W ta p) (hb : SE G d W tb q) : SN G d W (tOp r1 ta tb) (P.binN f p q) := fun A env σ F H Q R e o => by
  have o0 : Outg G A F H (SnR G A) (SnQ H Q) (WE W σ) ((p env).bind fun x => (q env).bind fun y => .of (f x y)) := o
  refine ha A env σ F H _ R e (Outg.bind o0 fun x v F1 H1 g1 rx o1 => hb A env σ F1 H1 _ (R.mono g1.ex) g1.sub (Outg.bind o1 fun y w F2 H2 g2 ry o2 => ?_))
  cases z : f x y with
  | none => rw [z] at o2; exact o2.elim
  | some ts =>
    rw [z] at o2
    refine hr A F2 H2 Q x y v w ts ((R.ok.mono g1.ex).mono g2.ex) g2.sub (rx.mono g2.ex) ry z fun pa vs rs hp => ?_
    exact o2 (pa, vs) F2 (upd H2 pa (.lst vs)) (Grow.junk g2.sub hp) ⟨rs, none_of_ex g2.sub hp⟩ (none_of_ex (g1.keep.trans g2.keep) hp) upd_same
def T.catN : T → T → Option (List T)
  | .lst _ xs, .lst _ ys => if lfit (xs.length + ys.length) = true then some (xs ++ ys) else none
  | _, _ => none
def T.repN : T → T → Option (List T)
  | .lst _ xs, .int k => if decide (-(2 ^ 63) ≤ k) && decide (k < 2 ^ 63) && lfit (xs.length * k.toNat) then some (List.replicate k.toNat xs).flatten else none
  | _, _ => none
theorem opn_cat : OpN G rCat T.catN := fun A F H Q x y v w ts ok e rx ry z k => by
  cases x <;> cases y <;> (try cases z)
  rename_i g1 xs g2 ys
  obtain ⟨a, vs, rfl, h1, h2, h3⟩ := rx
  obtain ⟨b, ws, rfl, k1, k2, k3⟩ := ry
  have z' : (if lfit (xs.length + ys.length) = true then some (xs ++ ys) else none) = some ts := z
  obtain ⟨c, rfl⟩ := if_someA z'
  exact ⟨a, b, vs, ws, rfl, rfl, e _ _ h1, e _ _ k1, (by rw [h3.length, k3.length]; exact of_decide_eq_true c), fun p hp => k p _ (h3.append k3) hp⟩
theorem opn_rep : OpN G rRep T.repN := fun A F H Q x y v w ts ok e rx ry z k => by
  cases x <;> cases y <;> (try cases z)
  rename_i g1 xs n
  obtain ⟨a, vs, rfl, h1, h2, h3⟩ := rx
  cases ry
  have z' : (if decide (-(2 ^ 63) ≤ n) && decide (n < 2 ^ 63) && lfit (xs.length * n.toNat) then some (List.replicate n.toNat xs).flatten else none) = some ts := z
  obtain ⟨c, rfl⟩ := if_someA z'
  obtain ⟨c, c3⟩ := band c
  obtain ⟨c1, c2⟩ := band c
  exact ⟨a, n, vs, rfl, rfl, e _ _ h1, of_decide_eq_true c1, of_decide_eq_true c2, (by rw [h3.length]; exact of_decide_eq_true c3), fun p hp => k p _ (h3.flat _) hp⟩
theorem dn_cat (h1 : DE cl X d W e1 p) (h2 : DE cl X d W e2 q) : DN cl X d W (.BinOp e1 .Add e2 pos) (P.binN T.catN p q) := by
  obtain ⟨t1, b1, b2⟩ := h1
  obtain ⟨t2, c1, c2⟩ := h2
  exact ⟨_, pe_op op_cat b1 c1, sn_op opn_cat b2 c2⟩
theorem dn_rep (h1 : DE cl X d W e1 p) (h2 : DE cl X d W e2 q) : DN cl X d W (.BinOp e1 .Mult e2 pos) (P.binN T.repN p q) := by
  obtain ⟨t1, b1, b2⟩ := h1
  obtain ⟨t2, c1, c2⟩ := h2
  exact ⟨_, pe_op op_rep b1 c1, sn_op opn_rep b2 c2⟩
theorem dn_list (hm : X.mg "list" = none) (h : DE cl X d W e p) (hg : Gl X "list" := by rfl) (he : starEach [e] X.env = (false, eval e X.env) :: starEach [] X.env := by rfl) (hpl : (backTo pos (starEach [] X.env)).any (·.1) = false := by rfl) : DN cl X d W (.Call (.Name "list" p1) [e] [] pos) (P.items p) := by
  obtain ⟨t1, b1, b2⟩ := h
  refine ⟨_, pe_callTy call_list_of hg hm (by decide +kernel) (pa_cons b1 pa_nil he) (by decide) (by decide) he hpl, fun A env σ F H Q R e o => ?_⟩
  have o1 : Outg ⟨X.K, cl⟩ A F H (SnR ⟨X.K, cl⟩ A) (SnQ H Q) (WE W σ) ((p env).bind fun t => .of t.items) := o
  refine b2 A env σ F H _ R e (Outg.bind o1 fun x v F1 H1 g1 rx o2 => ?_)
  cases z : x.items with
  | none => rw [z] at o2; exact o2.elim
  | some us =>
    rw [z] at o2
    obtain ⟨a, ws, rfl, s, r2⟩ := items_of rx z
    exact ⟨a, ws, rfl, sq_mono g1.sub s, fun pa hp => o2 (pa, ws) F1 (upd H1 pa (.lst ws)) (Grow.junk g1.sub hp) ⟨r2, none_of_ex g1.sub hp⟩ (none_of_ex g1.keep hp) upd_same⟩
end
end Py

set_option Elab.async false
set_option linter.all false
set_option maxRecDepth 100000
set_option maxHeartbeats 4000000
namespace Py
open PySem L2 PySem.Spec PyProof.Rows Evl

/-! ### is True, is False -/
def T.isS (neg : Bool) (x y : T) : Option T := match y with
  | .bl b => (match x with
    | .bl a => some (.bl (decide (a = b) != neg))
    | .ins _ _ _ _ => none
    | .exn _ _ _ => none
    | _ => some (.bl neg))
  | _ => none
def T.isA (x y : T) : Option T := (T.isN x y).or (T.isS false x y)
def T.notA (x y : T) : Option T := (T.notN x y).or (T.isS true x y)
/-- a value that is not a bool, told by its V -/
def nbV : V → Prop
  | .bl _ => False
  | _ => True
def rIsS (neg : Bool) : R2 := fun x y H Q => ∃ b : Bool, y = .bl b ∧ ((∃ a : Bool, x = .bl a ∧ Q (.bl (decide (a = b) != neg)) H) ∨ (nbV x ∧ Q (.bl neg) H))
theorem plain_bool {x : V} {v : Value} (rx : RelV x v) (b : Bool) : plainIs v (.bool b) = true := by
  cases x <;> first
    | (cases rx; rfl)
    | (obtain ⟨t, rfl⟩ := rx; rfl)
section
variable {cl : Cl} {X : Cx}
theorem op_isS : OpR X (compareOp .Is) (rIsS false) := by
  intro pins s σ H x y v u Q I rx ry h
  obtain ⟨b, rfl, h⟩ := h
  cases (show u = Value.bool b from ry)
  rcases h with ⟨a, rfl, q⟩ | ⟨nb, q⟩
  · cases (show v = Value.bool a from rx)
    by_cases e : a = b
    · subst e
      exact wpAny_is_self rfl ⟨.bl true, H, I, rfl, by simpa using q⟩
    · exact wpAny_is_other rfl (fun z => e (Value.bool.inj z)) ⟨.bl false, H, I, rfl, by simpa [e] using q⟩
  · refine wpAny_is_other (plain_bool rx b) (fun z => ?_) ⟨.bl false, H, I, rfl, q⟩
    subst z
    cases x with
    | bl a => exact nb
    | non => cases rx
    | ref a => cases rx
    | ty a => cases rx
    | int a => obtain ⟨t, z⟩ := rx; cases z
    | str a => obtain ⟨t, z⟩ := rx; cases z
    | byt a => obtain ⟨t, z⟩ := rx; cases z
    | flt a => obtain ⟨t, z⟩ := rx; cases z
theorem op_notS : OpR X (compareOp .IsNot) (rIsS true) := by
  intro pins s σ H x y v u Q I rx ry h
  obtain ⟨b, rfl, h⟩ := h
  cases (show u = Value.bool b from ry)
  rcases h with ⟨a, rfl, q⟩ | ⟨nb, q⟩
  · cases (show v = Value.bool a from rx)
    by_cases e : a = b
    · subst e
      exact wpAny_isNot_self rfl ⟨.bl false, H, I, rfl, by simpa using q⟩
    · exact wpAny_isNot_other rfl (fun z => e (Value.bool.inj z)) ⟨.bl true, H, I, rfl, by simpa [e] using q⟩
  · refine wpAny_isNot_other (plain_bool rx b) (fun z => ?_) ⟨.bl true, H, I, rfl, q⟩
    subst z
    cases x with
    | bl a => exact nb
    | non => cases rx
    | ref a => cases rx
    | ty a => cases rx
    | int a => obtain ⟨t, z⟩ := rx; cases z
    | str a => obtain ⟨t, z⟩ := rx; cases z
    | byt a => obtain ⟨t, z⟩ := rx; cases z
    | flt a => obtain ⟨t, z⟩ := rx; cases z
theorem isS_sound {neg : Bool} : OpS ⟨X.K, cl⟩ (rIsS neg) (T.isS neg) := fun A F H Q E x y v w ok e rx ry o => by
  cases y <;> (try exact o.elim)
  cases ry
  refine ⟨_, rfl, ?_⟩
  cases x with
  | bl a => cases rx; exact .inl ⟨_, rfl, Out.here o e rfl⟩
  | non => cases rx; exact .inr ⟨trivial, Out.here o e rfl⟩
  | int i => cases rx; exact .inr ⟨trivial, Out.here o e rfl⟩
  | str i => cases rx; exact .inr ⟨trivial, Out.here o e rfl⟩
  | lst g ts => obtain ⟨a, vs, rfl, _⟩ := rx; exact .inr ⟨trivial, Out.here o e rfl⟩
  | tup ts => obtain ⟨a, vs, rfl, _⟩ := rx; exact .inr ⟨trivial, Out.here o e rfl⟩
  | ro ts => obtain ⟨a, vs, rfl, _⟩ := rx; exact .inr ⟨trivial, Out.here o e rfl⟩
  | ins _ _ _ _ => exact o.elim
  | exn _ _ _ => exact o.elim
theorem opD_isA : OpD X cl (compareOp .Is) T.isA := opD_isN.or ⟨_, op_isS, isS_sound⟩ fun _ _ => rfl
theorem opD_notA : OpD X cl (compareOp .IsNot) T.notA := opD_notN.or ⟨_, op_notS, isS_sound⟩ fun _ _ => rfl
end
end Py

set_option Elab.async false
set_option linter.all false
set_option maxRecDepth 100000
set_option maxHeartbeats 4000000
namespace Py
open PySem L2 PySem.Spec PyProof.Rows Evl

/-! ### pop, reverse, clear of a list of one's own -/
namespace S
/-- y = xs.pop(k) -/
def popAsg (i j : Nat) (k : P.Ex1) : Sx := fun env => match env[i]? with
  | some (some (.ol ts)) => (k env).thenX env fun z => (match z with
    | .int z => (match ixN ts.length z with
      | some m => (match ts[m]? with
        | some y => if lfit ts.length = true ∧ j < env.length ∧ i ≠ j then .nx ((env.set i (some (.ol (ts.eraseIdx m)))).set j (some (.fz y))) else .stuck
        | none => .stuck)
      | none => .stuck)
    | _ => .stuck)
  | _ => .stuck
/-- ys.append(xs.pop(k)) -/
def popApp (i j : Nat) (k : P.Ex1) : Sx := fun env => match env[j]? with
  | some (some (.ol us)) => (match env[i]? with
    | some (some (.ol ts)) => (k env).thenX env fun z => (match z with
      | .int z => (match ixN ts.length z with
        | some m => (match ts[m]? with
          | some y => if lfit ts.length = true ∧ us.length < sizeLine ∧ i ≠ j then .nx ((env.set i (some (.ol (ts.eraseIdx m)))).set j (some (.ol (us ++ [y])))) else .stuck
          | none => .stuck)
        | none => .stuck)
      | _ => .stuck)
    | _ => .stuck)
  | _ => .stuck
/-- y = xs.pop() -/
def popLast (i j : Nat) : Sx := fun env => match env[i]? with
  | some (some (.ol ts)) => (match ts[ts.length - 1]? with
    | some y => if j < env.length ∧ i ≠ j then .nx ((env.set i (some (.ol ts.dropLast))).set j (some (.fz y))) else .stuck
    | none => .stuck)
  | _ => .stuck
def rev (i : Nat) : Sx := fun env => match env[i]? with
  | some (some (.ol ts)) => .nx (env.set i (some (.ol ts.reverse)))
  | _ => .stuck
def clear (i : Nat) : Sx := fun env => match env[i]? with
  | some (some (.ol ts)) => .nx (env.set i (some (.ol [])))
  | _ => .stuck
end S
theorem reps.erase {G : Ge} {A : Al} {F : Hp} : ∀ {ts : List T} {vs : List V} (m : Nat), reps G A F ts vs → reps G A F (ts.eraseIdx m) (vs.eraseIdx m)
  | [], _, _, h => by rw [show _ = [] from h]; rfl
  | _ :: _, _, 0, ⟨v, ws, h1, h2, h3⟩ => by rw [h1]; exact h3
  | _ :: _, _, m + 1, ⟨v, ws, h1, h2, h3⟩ => by rw [h1]; exact ⟨v, _, rfl, h2, reps.erase m h3⟩
theorem reps.dropLast {G : Ge} {A : Al} {F : Hp} {ts : List T} {vs : List V} (h : reps G A F ts vs) : reps G A F ts.dropLast vs.dropLast := by
  rw [List.dropLast_eq_take, List.dropLast_eq_take, h.length]
  exact h.take _
section
variable {G : Ge} {d i j : Nat} {W : WX} {te tk : TE} {k : P.Ex1}
theorem ixN_rg {n m : Nat} {z : Int} (h : ixN n z = some m) (hn : lfit n = true) : -(2 ^ 63) ≤ z ∧ z < 2 ^ 63 := by
  have h1 := (ixN_seq h).2.2
  have h2 : n ≤ sizeLine := of_decide_eq_true hn
  have h3 : sizeLine = 16777216 := rfl
  omega
theorem ss_popAsg (hk : SE G d W tk k) (hp : j = 0 → G.c.pin = none) : SS G d W (tAsg (tBM G.K "list" rPopAt (tVar i) (tCons tk tNil)) (gName j)) (S.popAsg i j k) := fun A0 F0 H0 A env σ F H D R o => by
  unfold S.popAsg at o
  split at o
  · rename_i ts e
    obtain ⟨pa, vs, h1, h2, h3, h4⟩ := R.ol i ts e
    refine ⟨_, h1, Or.inl ⟨rfl, vs, SqL.of h3⟩, R.runX hk o fun r v F1 H1 R1 r1 o1 => ?_⟩
    cases r <;> (try exact o1.elim)
    rename_i z
    have hv : v = .int z := r1 rfl
    subst hv
    obtain ⟨pb, vs1, k1, k2, k3, k4⟩ := R1.ol i ts e
    rw [h1] at k1
    cases k1
    have o2 : OutS G d A0 F0 H0 W D (match ixN ts.length z with
      | some m => (match ts[m]? with
        | some y => if lfit ts.length = true ∧ j < env.length ∧ i ≠ j then .nx ((env.set i (some (.ol (ts.eraseIdx m)))).set j (some (.fz y))) else .stuck
        | none => .stuck)
      | none => .stuck) := o1
    cases hm : ixN ts.length z with
    | none => rw [hm] at o2; exact o2.elim
    | some m =>
      simp only [hm] at o2
      cases hy : ts[m]? with
      | none => rw [hy] at o2; exact o2.elim
      | some y =>
        simp only [hy] at o2
        obtain ⟨⟨c1, c2, c3⟩, o3⟩ := OutS.of_if o2
        obtain ⟨b1, b2⟩ := ixN_rg hm c1
        obtain ⟨v, hv, rv⟩ := k4.get hy
        refine ⟨_, vs1, z, m, v, rfl, rfl, k3, b1, b2, by rw [k4.length]; exact (ixN_seq hm).1, hv, ?_⟩
        have R2 := R1.wr e h1 k2 (k4.erase m)
        obtain ⟨A', R3⟩ := R2.set (i := j) rv (by rw [List.length_set]; exact c2) hp
        exact o3 A' _ _ _ R3
  · exact o.elim
theorem ss_popLast (hp : j = 0 → G.c.pin = none) : SS G d W (tAsg (tBM0 G.K "list" rPop (tVar i)) (gName j)) (S.popLast i j) := fun A0 F0 H0 A env σ F H D R o => by
  unfold S.popLast at o
  split at o
  · rename_i ts e
    obtain ⟨pa, vs, h1, h2, h3, h4⟩ := R.ol i ts e
    refine ⟨_, h1, Or.inl ⟨rfl, vs, SqL.of h3⟩, ?_⟩
    cases hy : ts[ts.length - 1]? with
    | none => rw [hy] at o; exact o.elim
    | some y =>
      simp only [hy] at o
      obtain ⟨⟨c1, c2⟩, o3⟩ := OutS.of_if o
      obtain ⟨v, hv, rv⟩ := h4.get hy
      refine ⟨_, vs, v, rfl, rfl, h3, by rw [h4.length]; exact hv, ?_⟩
      have R2 := R.wr e h1 h2 h4.dropLast
      obtain ⟨A', R3⟩ := R2.set (i := j) rv (by rw [List.length_set]; exact c1) hp
      exact o3 A' _ _ _ R3
  · exact o.elim
theorem ss_popApp (hk : SE G d W tk k) : SS G d W (tDrop (tBM G.K "list" rAppend (tVar j) (tCons (tBM G.K "list" rPopAt (tVar i) (tCons tk tNil)) tNil))) (S.popApp i j k) := fun A0 F0 H0 A env σ F H D R o => by
  unfold S.popApp at o
  split at o
  · rename_i us ej
    split at o
    · rename_i ts e
      obtain ⟨pj, ws, g1, g2, g3, g4⟩ := R.ol j us ej
      obtain ⟨pa, vs, h1, h2, h3, h4⟩ := R.ol i ts e
      refine ⟨_, g1, Or.inl ⟨rfl, ws, SqL.of g3⟩, _, h1, Or.inl ⟨rfl, vs, SqL.of h3⟩, R.runX hk o fun r v F1 H1 R1 r1 o1 => ?_⟩
      cases r <;> (try exact o1.elim)
      rename_i z
      have hv : v = .int z := r1 rfl
      subst hv
      obtain ⟨pb, vs1, k1, k2, k3, k4⟩ := R1.ol i ts e
      rw [h1] at k1
      cases k1
      have o2 : OutS G d A0 F0 H0 W D (match ixN ts.length z with
        | some m => (match ts[m]? with
          | some y => if lfit ts.length = true ∧ us.length < sizeLine ∧ i ≠ j then .nx ((env.set i (some (.ol (ts.eraseIdx m)))).set j (some (.ol (us ++ [y])))) else .stuck
          | none => .stuck)
        | none => .stuck) := o1
      cases hm : ixN ts.length z with
      | none => rw [hm] at o2; exact o2.elim
      | some m =>
        simp only [hm] at o2
        cases hy : ts[m]? with
        | none => rw [hy] at o2; exact o2.elim
        | some y =>
          simp only [hy] at o2
          obtain ⟨⟨c1, c2, c3⟩, o3⟩ := OutS.of_if o2
          obtain ⟨b1, b2⟩ := ixN_rg hm c1
          obtain ⟨v, hv, rv⟩ := k4.get hy
          refine ⟨_, vs1, z, m, v, rfl, rfl, k3, b1, b2, by rw [k4.length]; exact (ixN_seq hm).1, hv, ?_⟩
          have R2 := R1.wr e h1 k2 (k4.erase m)
          have ej' : (env.set i (some (.ol (ts.eraseIdx m))))[j]? = some (some (.ol us)) := by
            rw [List.getElem?_set_ne c3]
            exact ej
          obtain ⟨pk, ws1, l1, l2, l3, l4⟩ := R2.ol j us ej'
          rw [g1] at l1
          cases l1
          refine ⟨_, ws1, v, rfl, rfl, l3, by rw [l4.length]; exact c2, ?_⟩
          exact o3 _ _ _ _ (R2.wr ej' g1 l2 (l4.append (reps.one rv)))
    · exact o.elim
  · exact o.elim
theorem ss_rev : SS G d W (tDrop (tBM0 G.K "list" rReverse (tVar i))) (S.rev i) := fun A0 F0 H0 A env σ F H D R o => by
  unfold S.rev at o
  split at o
  · rename_i ts e
    obtain ⟨pa, vs, h1, h2, h3, h4⟩ := R.ol i ts e
    exact ⟨_, h1, Or.inl ⟨rfl, vs, SqL.of h3⟩, _, vs, rfl, rfl, h3, o _ _ _ _ (R.wr e h1 h2 h4.reverse)⟩
  · exact o.elim
theorem ss_clear : SS G d W (tDrop (tBM0 G.K "list" rClear (tVar i))) (S.clear i) := fun A0 F0 H0 A env σ F H D R o => by
  unfold S.clear at o
  split at o
  · rename_i ts e
    obtain ⟨pa, vs, h1, h2, h3, h4⟩ := R.ol i ts e
    exact ⟨_, h1, Or.inl ⟨rfl, vs, SqL.of h3⟩, _, vs, rfl, rfl, h3, o _ _ _ _ (R.wr e h1 h2 (us := []) (ws := []) rfl)⟩
  · exact o.elim
end
section
variable {cl : Cl} {X : Cx} {d i j : Nat} {W : WX} {e : Expr} {p : P.Ex1} {pos p1 p' p2 : Pos} {x y : Str} {apos apos2 : Pos}
theorem ds_popAsg (hk : DE cl X d W e p) (hNd : X.N.Nodup) (hN : X.N[i]? = some x := by rfl) (hv : Vis X.env.scope x := by first | exact Or.inl rfl | exact Or.inr (Or.inl rfl) | exact Or.inr (Or.inr rfl)) (hd : (x == ("__debug__" : Str)) = false := by decide) (hcd : (x == ("__classdict__" : Str)) = false := by decide)
    (hy : X.N[j]? = some y := by rfl) (hyl : Loc X.env.scope y := by first | exact Or.inl rfl | exact Or.inr rfl) (hf : X.fn y = true ∨ X.env.scope.names.lookup y = some .local := by first | exact .inl rfl | exact .inr rfl)
    (hbase : attributeBase (.Name x p') "pop" X.env (eval (.Name x p') X.env) = eval (.Name x p') X.env := by rfl)
    (hfew : ((backTo p1 (starEach [e] X.env)).all (fun x => !x.1) && (backToKw p1 (keywordEach [] X.env)).all (fun x => x.1.isSome) && decide ([e].length + ([] : List Keyword).length + (if ([] : List Keyword).isEmpty then 0 else 1) < 30)) = true := by rfl)
    (hline : (apos.endLine == p1.line) = true := by rfl) (hs : starEach [e] X.env = (false, eval e X.env) :: starEach [] X.env := by rfl) (hplain : (backTo p1 (starEach [] X.env)).any (·.1) = false := by rfl)
    (hsw : swapsWith (.Call (.Attribute (.Name x p') "pop" apos) [e] [] p1) (some (.Name y p2)) pos.line X.env = pure false := by rfl) (hp : j = 0 → cl.pin = none := by first | (intro h; cases h) | (intro _; assumption)) : DS cl X d W (.Assign [.Name y p2] (.Call (.Attribute (.Name x p') "pop" apos) [e] [] p1) pos) (S.popAsg i j p) := by
  obtain ⟨t, a1, a2⟩ := hk
  exact ⟨_, ps_set hNd hy hyl (pe_bm PySem.F.plainAttrs_list PySem.F.slot_list_pop PySem.F.type_list_pop mt_popAt (pe_var hN hv hd hcd) (pa_cons a1 pa_nil hs) hbase hfew hline hs hplain) hsw hf, ss_popAsg a2 hp⟩
theorem ds_popLast (hNd : X.N.Nodup) (hN : X.N[i]? = some x := by rfl) (hv : Vis X.env.scope x := by first | exact Or.inl rfl | exact Or.inr (Or.inl rfl) | exact Or.inr (Or.inr rfl)) (hd : (x == ("__debug__" : Str)) = false := by decide) (hcd : (x == ("__classdict__" : Str)) = false := by decide)
    (hy : X.N[j]? = some y := by rfl) (hyl : Loc X.env.scope y := by first | exact Or.inl rfl | exact Or.inr rfl) (hf : X.fn y = true ∨ X.env.scope.names.lookup y = some .local := by first | exact .inl rfl | exact .inr rfl)
    (hbase : attributeBase (.Name x p') "pop" X.env (eval (.Name x p') X.env) = eval (.Name x p') X.env := by rfl) (hline : (apos.endLine == p1.line) = true := by rfl)
    (hsw : swapsWith (.Call (.Attribute (.Name x p') "pop" apos) [] [] p1) (some (.Name y p2)) pos.line X.env = pure false := by rfl) (hp : j = 0 → cl.pin = none := by first | (intro h; cases h) | (intro _; assumption)) : DS cl X d W (.Assign [.Name y p2] (.Call (.Attribute (.Name x p') "pop" apos) [] [] p1) pos) (S.popLast i j) :=
  ⟨_, ps_set hNd hy hyl (pe_bm0 PySem.F.plainAttrs_list PySem.F.slot_list_pop PySem.F.type_list_pop mt_pop (pe_var hN hv hd hcd) hbase hline) hsw hf, ss_popLast hp⟩
theorem ds_popApp (hk : DE cl X d W e p) (hN : X.N[i]? = some x := by rfl) (hv : Vis X.env.scope x := by first | exact Or.inl rfl | exact Or.inr (Or.inl rfl) | exact Or.inr (Or.inr rfl)) (hd : (x == ("__debug__" : Str)) = false := by decide) (hcd : (x == ("__classdict__" : Str)) = false := by decide)
    (hNy : X.N[j]? = some y := by rfl) (hvy : Vis X.env.scope y := by first | exact Or.inl rfl | exact Or.inr (Or.inl rfl) | exact Or.inr (Or.inr rfl)) (hdy : (y == ("__debug__" : Str)) = false := by decide) (hcdy : (y == ("__classdict__" : Str)) = false := by decide)
    (hbase : attributeBase (.Name x p') "pop" X.env (eval (.Name x p') X.env) = eval (.Name x p') X.env := by rfl)
    (hfew : ((backTo p1 (starEach [e] X.env)).all (fun x => !x.1) && (backToKw p1 (keywordEach [] X.env)).all (fun x => x.1.isSome) && decide ([e].length + ([] : List Keyword).length + (if ([] : List Keyword).isEmpty then 0 else 1) < 30)) = true := by rfl)
    (hline : (apos.endLine == p1.line) = true := by rfl) (hs : starEach [e] X.env = (false, eval e X.env) :: starEach [] X.env := by rfl) (hplain : (backTo p1 (starEach [] X.env)).any (·.1) = false := by rfl)
    {py pc : Pos}
    (hbase2 : attributeBase (.Name y py) "append" X.env (eval (.Name y py) X.env) = eval (.Name y py) X.env := by rfl)
    (hfew2 : ((backTo pc (starEach [.Call (.Attribute (.Name x p') "pop" apos) [e] [] p1] X.env)).all (fun x => !x.1) && (backToKw pc (keywordEach [] X.env)).all (fun x => x.1.isSome) && decide ([Expr.Call (.Attribute (.Name x p') "pop" apos) [e] [] p1].length + ([] : List Keyword).length + (if ([] : List Keyword).isEmpty then 0 else 1) < 30)) = true := by rfl)
    (hline2 : (apos2.endLine == pc.line) = true := by rfl) (hs2 : starEach [.Call (.Attribute (.Name x p') "pop" apos) [e] [] p1] X.env = (false, eval (.Call (.Attribute (.Name x p') "pop" apos) [e] [] p1) X.env) :: starEach [] X.env := by rfl) (hplain2 : (backTo pc (starEach [] X.env)).any (·.1) = false := by rfl)
    (hsw : swapsWith (.Call (.Attribute (.Name y py) "append" apos2) [.Call (.Attribute (.Name x p') "pop" apos) [e] [] p1] [] pc) none pos.line X.env = pure false := by rfl) :
    DS cl X d W (.Expr (.Call (.Attribute (.Name y py) "append" apos2) [.Call (.Attribute (.Name x p') "pop" apos) [e] [] p1] [] pc) pos) (S.popApp i j p) := by
  obtain ⟨t, a1, a2⟩ := hk
  exact ⟨_, ps_expr (pe_bm PySem.F.plainAttrs_list PySem.F.slot_list_append PySem.F.type_list_append mt_append (pe_var hNy hvy hdy hcdy)
    (pa_cons (pe_bm PySem.F.plainAttrs_list PySem.F.slot_list_pop PySem.F.type_list_pop mt_popAt (pe_var hN hv hd hcd) (pa_cons a1 pa_nil hs) hbase hfew hline hs hplain) pa_nil hs2) hbase2 hfew2 hline2 hs2 hplain2) hsw, ss_popApp a2⟩
theorem ds_rev (hN : X.N[i]? = some x := by rfl) (hv : Vis X.env.scope x := by first | exact Or.inl rfl | exact Or.inr (Or.inl rfl) | exact Or.inr (Or.inr rfl)) (hd : (x == ("__debug__" : Str)) = false := by decide) (hcd : (x == ("__classdict__" : Str)) = false := by decide)
    (hbase : attributeBase (.Name x p') "reverse" X.env (eval (.Name x p') X.env) = eval (.Name x p') X.env := by rfl) (hline : (apos.endLine == p1.line) = true := by rfl)
    (hsw : swapsWith (.Call (.Attribute (.Name x p') "reverse" apos) [] [] p1) none pos.line X.env = pure false := by rfl) : DS cl X d W (.Expr (.Call (.Attribute (.Name x p') "reverse" apos) [] [] p1) pos) (S.rev i) :=
  ⟨_, ps_expr (pe_bm0 PySem.F.plainAttrs_list PySem.F.slot_list_reverse PySem.F.type_list_reverse mt_reverse (pe_var hN hv hd hcd) hbase hline) hsw, ss_rev⟩
theorem ds_clear (hN : X.N[i]? = some x := by rfl) (hv : Vis X.env.scope x := by first | exact Or.inl rfl | exact Or.inr (Or.inl rfl) | exact Or.inr (Or.inr rfl)) (hd : (x == ("__debug__" : Str)) = false := by decide) (hcd : (x == ("__classdict__" : Str)) = false := by decide)
    (hbase : attributeBase (.Name x p') "clear" X.env (eval (.Name x p') X.env) = eval (.Name x p') X.env := by rfl) (hline : (apos.endLine == p1.line) = true := by rfl)
    (hsw : swapsWith (.Call (.Attribute (.Name x p') "clear" apos) [] [] p1) none pos.line X.env = pure false := by rfl) : DS cl X d W (.Expr (.Call (.Attribute (.Name x p') "clear" apos) [] [] p1) pos) (S.clear i) :=
  ⟨_, ps_expr (pe_bm0 PySem.F.plainAttrs_list PySem.F.slot_list_clear PySem.F.type_list_clear mt_clear (pe_var hN hv hd hcd) hbase hline) hsw, ss_clear⟩
end
end Py

set_option Elab.async false
set_option linter.all false
set_option maxRecDepth 100000
set_option maxHeartbeats 4000000
namespace Py
open PySem L2 PySem.Spec PyProof.Rows Evl

/-! ### sorted(whole numbers) -/
def isort (l : List Int) : List Int := l.mergeSort (fun a b => decide (a ≤ b))
theorem isort_perm (l : List Int) : (isort l).Perm l := List.mergeSort_perm l _
theorem isort_pw (l : List Int) : (isort l).Pairwise (· ≤ ·) := by
  have h := List.pairwise_mergeSort (le := fun a b : Int => decide (a ≤ b)) (fun a b c h1 h2 => by simp at *; omega) (fun a b => by simp; omega) l
  exact h.imp fun h => of_decide_eq_true h
theorem isort_unique {l m : List Int} (hp : m.Perm l) (hs : m.Pairwise (· ≤ ·)) : m = isort l :=
  List.Perm.eq_of_pairwise (fun a b _ _ h1 h2 => Int.le_antisymm h1 h2) hs (isort_pw l) (hp.trans (isort_perm l).symm)
namespace B
def sorted : List T → Option T
  | [.lst _ ts] => (match nums ts with | some l => some (.lst none ((isort l).map T.int)) | none => none)
  | [.ro ts] => (match nums ts with | some l => some (.lst none ((isort l).map T.int)) | none => none)
  | _ => none
end B
section
variable {cl : Cl} {X : Cx}
theorem reps_of_ints {G : Ge} {A : Al} {F : Hp} : ∀ l : List Int, reps G A F (l.map T.int) (l.map V.int)
  | [] => rfl
  | x :: l => ⟨.int x, l.map V.int, rfl, rfl, reps_of_ints l⟩
theorem crd_sorted : CRd cl X (.builtin "sorted") B.sorted := ⟨_, cr_sortedI, fun A F H Q E ts vs ok e r o => by
  unfold B.sorted at o
  split at o
  · rename_i g us
    obtain ⟨v, rfl, a, ws, rfl, h1, h2, h3⟩ := reps1 r
    cases z : B.nums us with
    | none => simp only [z] at o; exact o.elim
    | some l =>
      simp only [z] at o
      have hw := ints_of z h3
      subst hw
      exact ⟨a, l, rfl, .of (e _ _ h1), fun ns' p hp hs hn => by rw [isort_unique hp hs]; exact Out.lst o ok e (reps_of_ints _) p hn⟩
  · rename_i us
    obtain ⟨v, rfl, a, ws, rfl, h1, h3⟩ := reps1 r
    cases z : B.nums us with
    | none => simp only [z] at o; exact o.elim
    | some l =>
      simp only [z] at o
      have hw := ints_of z h3
      subst hw
      exact ⟨a, l, rfl, ex_l e h1, fun ns' p hp hs hn => by rw [isort_unique hp hs]; exact Out.lst o ok e (reps_of_ints _) p hn⟩
  · exact o.elim⟩
end
end Py

set_option Elab.async false
set_option linter.all false
set_option maxRecDepth 100000
set_option maxHeartbeats 4000000
namespace Py
open PySem L2 PySem.Spec PyProof.Rows Evl

/-! ### fields of own instances -/
def T.fldI (c : Nat) (f : Str) : T → Option T
  | .ins _ c' ns ts => if c' = c then (ns.zip ts).lookup f else none
  | _ => none
/-- what a plain class must say, and that it has none of these names itself -/
structure Kls (K : PySem.W.Frag) (C : Addr) : Prop where
  cl : Cls K C
section
variable {cl : Cl} {X : Cx} {d : Nat} {W : WX} {e : Expr} {p : P.Ex1} {pos : Pos} {f : Str} {c : Nat}
theorem de_fld (C : Cls X.K (cl.f c)) (hno : NoAttr X.K (cl.f c) f) (h : DE cl X d W e p) (hb : attributeBase e f X.env (eval e X.env) = eval e X.env := by rfl) : DE cl X d W (.Attribute e f pos) (P.un (T.fldI c f) p) := by
  obtain ⟨te, a1, a2⟩ := h
  refine ⟨_, pe_fld a1 hb, fun A env σ F H Q R e o => a2 A env σ F H _ R e (Outg.bind o fun y w F1 H1 g1 rx o1 => ?_)⟩
  unfold T.fldI at o1
  cases y with
  | ins g c' ns ts =>
    simp only at o1
    split at o1
    · rename_i hcc
      subst hcc
      cases q : (ns.zip ts).lookup f with
      | none => rw [q] at o1; exact o1.elim
      | some t =>
        rw [q] at o1
        obtain ⟨a, dx, vs, rfl, e1, e2, e3, e4⟩ := rx
        obtain ⟨v, hv, rv⟩ := zip_lookup e4 q
        exact ⟨a, _, dx, _, v, rfl, g1.sub _ _ e1, C, hno, hv, Out.here o1 g1.sub rv⟩
    · exact o1.elim
  | _ => exact o1.elim
end
/-! ### C(e, ..): what __init__ raises is wished at the slots -/
def tMkS (C : Addr) (sp : Sp) (E : L2.St → XK) (t : TA) : TE := fun σ H Q => t σ H fun ws H1 => ∀ p q, H1 p = none → H1 q = none → q ≠ p →
  sp (.ref p :: ws) (upd (upd H1 q (.own p)) p (.ins C q [])) (fun v H2 => v = .non ∧ Q (.ref p) H2) (E σ)
section
variable {X : Cx} {k : Nat} {fI C : Addr} {fd : FuncData} {ps : List Str} {sp : Sp} {E : L2.St → XK}
theorem run_mkS {pl : List (Addr × Obj)} {σ : L2.St} {H : Hp} {s : Shared} {Q : VK} {us : List Value} {ws : List V} (M : Mk X.K C fI) (F : FnOk X.prog X.w X.K X.mg X.base (L2.CX X.prog X.w) k fI fd ps sp) (hr : Room (k + 1) X.A) (hb : Binds X.K fd ps [])
    (hx : PassesAt (L2.CX X.prog X.w) X σ (E σ)) (I : Inv X pl σ H s) (r : Vals ws us) (h : ∀ p q, H p = none → H q = none → q ≠ p → sp (.ref p :: ws) (upd (upd H q (.own p)) p (.ins C q [])) (fun v H2 => v = .non ∧ Q (.ref p) H2) (E σ)) :
    wpAny (model X.prog X.w) X.A (call (.ref C) us) (EP X pl σ Q) X.xe s := by
  have h1 : H (s.heap.objs.size + 1) = none := I.hok.fresh (Nat.le_succ _)
  have h2 : H s.heap.objs.size = none := I.hok.fresh (Nat.le_refl _)
  have w := h _ _ h1 h2 (Nat.ne_of_lt (Nat.lt_succ_self _))
  have J := Inv.made (C := C) I
  have rr : Vals (V.ref (s.heap.objs.size + 1) :: ws) (Value.ref (s.heap.objs.size + 1) :: us) := .cons rfl r
  have len : (Value.ref (s.heap.objs.size + 1) :: us).length = ps.length := by rw [← rr.length]; exact F.len _ _ _ _ w
  have bnd := hb _ _ J.kIn ((congrArg List.length (List.append_nil _)).trans len)
  rw [List.append_nil] at bnd
  have go := F.run _ X.stack _ _ ⟨Value.ref (s.heap.objs.size + 1) :: us, []⟩ _ _ _ (E σ) (hr.make C us []) (J.env0.make C us []) bnd rr w
  refine wpAny_call (make_map (f := fI) I.kIn M.makes M.init (beq_iff_eq.mp M.fn) (codeAny_mono go fun res s' q => ?_))
  match res, q with
  | .error e, q => exact hx pl _ _ e s' J q
  | .ok (.ret u), q =>
    obtain ⟨v, H', J3, rv, ev, w3⟩ := J.after q
    subst ev
    exact ⟨rv, ⟨V.ref (s.heap.objs.size + 1), H', J3, rfl, w3⟩⟩
  | .ok .next, q => exact q.elim
  | .ok .brk, q => exact q.elim
  | .ok .cont, q => exact q.elim
theorem pe_mkS {x : Str} {e : Expr} {es : List Expr} {t : TA} {p pos : Pos} (M : Mk X.K C fI) (F : FnOk X.prog X.w X.K X.mg X.base (L2.CX X.prog X.w) k fI fd ps sp) (hr : Room (k + 1) X.A) (hg : Gl X x) (hm : X.mg x = some (.ref C)) (hb : Binds X.K fd ps [])
    (hx : ∀ σ, PassesAt (L2.CX X.prog X.w) X σ (E σ)) (ha : PA X (e :: es) t) (hdb : (x == ("__debug__" : Str)) = false) (he : starEach (e :: es) X.env = (false, eval e X.env) :: starEach es X.env) (hpl : (backTo pos (starEach es X.env)).any (·.1) = false) :
    PE X (.Call (.Name x p) (e :: es) [] pos) (tMkS C sp E t) := by
  refine ⟨fun pl s σ H Q I h => wpAny_Call_Name_kw (ld_glob I hg hm (PySem.W.callWith_K (h₀ := X.base) I.ok.mod.kin M.kp (thn (ha.run pos pl s σ H _ I h) ?_) he hpl) hdb)⟩
  rintro us s1 ⟨ws, H1, I1, r, q⟩
  exact ⟨I1.kIn, run_mkS M F hr hb (hx σ) I1 r q⟩
end
end Py

set_option Elab.async false
set_option linter.all false
set_option maxRecDepth 100000
set_option maxHeartbeats 4000000
namespace Py
open PySem L2 PySem.Spec PyProof.Rows Evl

/-! ### self.f = e, self an instance of the frame's own -/
namespace S
def fset (c i : Nat) (f : Str) (p : P.Ex1) : Sx := fun env => (p (hide env)).then_ env fun t => match env[i]? with
  | some (some (.oi c' ns ts)) => if c' = c ∧ ns.contains f = false ∧ ns.length < 1000 then .nx (env.set i (some (.oi c (ns ++ [f]) (ts ++ [t])))) else .stuck
  | _ => .stuck
end S
theorem putF_new {f : Str} {y : V} : ∀ {ns : List Str} {vs : List V}, vs.length = ns.length → ns.contains f = false → putF f y (ns.zip vs) = (ns ++ [f]).zip (vs ++ [y])
  | [], [], _, _ => rfl
  | [], _ :: _, h, _ => by simp at h
  | _ :: _, [], h, _ => by simp at h
  | n :: ns, v :: vs, h, c => by
    rw [List.contains_cons, Bool.or_eq_false_iff] at c
    have hn : ¬ n = f := fun e => by
      subst e
      rw [beq_self_eq_true] at c
      cases c.1
    show (if n = f then (n, y) :: ns.zip vs else (n, v) :: putF f y (ns.zip vs)) = _
    rw [if_neg hn, putF_new (by simpa using h) c.2]
    rfl
section
variable {G : Ge} {d i : Nat} {A0 A : Al} {F0 H0 F H : Hp} {env : Fv} {σ : L2.St}
theorem Rel.wrI {p dx : Addr} {c : Nat} {ns ns' : List Str} {ts us : List T} {ws : List V} (R : Rel G d A0 F0 H0 A env σ F H) (e : env[i]? = some (some (.oi c ns ts))) (hs : σ[i]? = some (some (.ref p))) (hA : A (d, i) = some p) (hl : ws.length = ns'.length) (h : reps G A0 F us ws) :
    Rel G d A0 F0 H0 A (env.set i (some (.oi c ns' us))) σ F (upd H p (.ins (G.cl c) dx (ns'.zip ws))) where
  ok0 := R.ok0
  dep0 := R.dep0
  len := by rw [List.length_set]; exact R.len
  agree := R.agree
  dep := R.dep
  inj := R.inj
  own := fun j a z => by
    obtain ⟨h1, h2, h3⟩ := R.own j a z
    refine ⟨h1, h2, ?_⟩
    by_cases q : a = p
    · rw [q, upd_same]; trivial
    · rw [upd_ne q]; exact h3
  exF := R.exF
  sub := fun a o y => by
    have q : a ≠ p := fun z => by rw [z, (R.own i p hA).1] at y; cases y
    rw [upd_ne q]; exact R.sub a o y
  keep := fun a o y => by
    have q : a ≠ p := fun z => by rw [z, (R.own i p hA).2.1] at y; cases y
    rw [upd_ne q]; exact R.keep a o y
  sep := R.sep
  fz := fun j u y => by
    by_cases q : i = j
    · subst q
      rw [List.getElem?_set_self (get_lt e)] at y
      cases y
    · rw [List.getElem?_set_ne q] at y; exact R.fz j u y
  ol := fun j u y => by
    by_cases q : i = j
    · subst q
      rw [List.getElem?_set_self (get_lt e)] at y
      cases y
    · rw [List.getElem?_set_ne q] at y
      obtain ⟨b, vs, k1, k2, k3, k4⟩ := R.ol j u y
      refine ⟨b, vs, k1, k2, ?_, k4⟩
      rw [upd_ne (fun z => q (Prod.mk.inj (R.inj _ _ _ hA (z ▸ k2))).2)]
      exact k3
  oi := fun j c' ns2 u y => by
    by_cases q : i = j
    · subst q
      rw [List.getElem?_set_self (get_lt e)] at y
      cases y
      exact ⟨p, dx, ws, hs, hA, upd_same, hl, h⟩
    · rw [List.getElem?_set_ne q] at y
      obtain ⟨b, dx', vs, k1, k2, k3, k4, k5⟩ := R.oi j c' ns2 u y
      refine ⟨b, dx', vs, k1, k2, ?_, k4, k5⟩
      rw [upd_ne (fun z => q (Prod.mk.inj (R.inj _ _ _ hA (z ▸ k2))).2)]
      exact k3
  pin := R.pin
end
section
variable {cl : Cl} {X : Cx} {G : Ge} {d i : Nat} {W : WX} {te : TE} {p : P.Ex1} {f : Str}
theorem ss_fset {c : Nat} (hC : Cls G.K (G.cl c)) (hn : NoAttr G.K (G.cl c) f) (he : SE G d W te p) : SS G d W (sFld G.K (tVar i) te f) (S.fset c i f p) := fun A0 F0 H0 A env σ F H D R o => by
  refine R.run he o fun r v F1 H1 R1 r1 o1 => ?_
  cases q : env[i]? with
  | none => rw [q] at o1; exact o1.elim
  | some s =>
    cases s with
    | none => rw [q] at o1; exact o1.elim
    | some s =>
      cases s with
      | fz t => rw [q] at o1; exact o1.elim
      | ol t => rw [q] at o1; exact o1.elim
      | oi c' ns ts =>
        rw [q] at o1
        obtain ⟨⟨c0, c1, c2⟩, o2⟩ := OutS.of_if o1
        subst c0
        obtain ⟨pa, dx, vs, k1, k2, k3, k4, k5⟩ := R1.oi i c' ns ts q
        refine ⟨_, k1, pa, G.cl c', dx, _, rfl, k3, hC, hn, ?_, ?_⟩
        · rw [List.length_zip, k4, Nat.min_self]; exact c2
        · rw [putF_new k4 c1]
          exact o2 A σ F1 _ (R1.wrI q k1 k2 (by rw [List.length_append, List.length_append, k4]; rfl) (k5.append (reps.one r1)))
theorem ds_fset {c : Nat} {x : Str} {e : Expr} {pos p' p2 : Pos} (hC : Cls X.K (cl.f c)) (hn : NoAttr X.K (cl.f c) f) (h : DE cl X d W e p) (hN : X.N[i]? = some x := by rfl) (hv : Vis X.env.scope x := by first | exact Or.inl rfl | exact Or.inr (Or.inl rfl) | exact Or.inr (Or.inr rfl)) (hd : (x == ("__debug__" : Str)) = false := by decide) (hcd : (x == ("__classdict__" : Str)) = false := by decide)
    (hs : swapsWith e (some (.Attribute (.Name x p2) f p')) pos.line X.env = pure false := by rfl) : DS cl X d W (.Assign [.Attribute (.Name x p2) f p'] e pos) (S.fset c i f p) := by
  obtain ⟨t, a1, a2⟩ := h
  exact ⟨_, ps_fld (pe_var hN hv hd hcd) a1 hs, ss_fset hC hn a2⟩
end
end Py

set_option Elab.async false
set_option linter.all false
set_option maxRecDepth 100000
set_option maxHeartbeats 4000000
namespace Py
open PySem L2 PySem.Spec PyProof.Rows Evl RT

/-! ### tuple(reversed(xs)), xs a list -/
def T.rev : T → Option T
  | .lst _ ts => some (.tup ts.reverse)
  | .ro ts => some (.tup ts.reverse)
  | _ => none
section
variable {cl : Cl} {X : Cx} {d : Nat} {W : WX} {e : Expr} {p : P.Ex1} {p1 p2 pos pos2 : Pos}
theorem de_tupRev (hm : X.mg "tuple" = none) (hm2 : X.mg "reversed" = none) (h : DE cl X d W e p) (hc : X.calm = true := by rfl) (hg : Gl X "tuple" := by rfl) (hg2 : Gl X "reversed" := by rfl) (hs : starEach [e] X.env = (false, eval e X.env) :: starEach [] X.env := by rfl)
    (hs2 : starEach [.Call (.Name "reversed" p2) [e] [] pos2] X.env = (false, eval (.Call (.Name "reversed" p2) [e] [] pos2) X.env) :: starEach [] X.env := by rfl) : DE cl X d W (.Call (.Name "tuple" p1) [.Call (.Name "reversed" p2) [e] [] pos2] [] pos) (P.un T.rev p) := by
  obtain ⟨te, a1, a2⟩ := h
  refine ⟨_, pe_tupRev hc hg hm hg2 hm2 a1 hs hs2, fun A env σ F H Q R e o => a2 A env σ F H _ R e (Outg.bind o fun y w F1 H1 g1 rx o1 => ?_)⟩
  unfold T.rev at o1
  cases y with
  | lst g ts =>
    obtain ⟨a, vs, rfl, h1, h2, h3⟩ := rx
    exact ⟨a, vs, rfl, .of (g1.sub _ _ h1), fun q hq => Out.tup o1 g1.sub h3.reverse q hq⟩
  | ro ts =>
    obtain ⟨a, vs, rfl, h1, h3⟩ := rx
    exact ⟨a, vs, rfl, ex_l g1.sub h1, fun q hq => Out.tup o1 g1.sub h3.reverse q hq⟩
  | _ => exact o1.elim
end
end Py

set_option Elab.async false
set_option linter.all false
set_option maxRecDepth 100000
set_option maxHeartbeats 4000000
namespace Py
open PySem L2 PySem.Spec PyProof.Rows Evl He

/-! ### raise C('text'), C without an __init__ of its own -/
structure X0ok (cl : Cl) (K : PySem.W.Frag) (mg : Str → Option Value) (x : Str) (c : Nat) : Prop where
  ex : PySem.W.excIn K (cl.f c) veBase "ValueError.__new__" = true
  kp : PySem.W.keepIn K (.ref (cl.f c)) = true
  sub : PySem.W.subIn K (.ref (cl.f c)) (.type "BaseException") = some true
  ty : PySem.W.typeIn K (.ref (cl.f c)) = some (.type "type")
  mg : mg x = some (.ref (cl.f c))
theorem x0_ok {ns : List Str} {K : PySem.W.Frag} {mg : Str → Option Value} {x : Str} {c : Nat} (h : (Fa.exc x).ok K = true) (hm : mg x = some (.ref (ga K x))) (hc : (clOf ns K).f c = ga K x) : X0ok (clOf ns K) K mg x c := by
  obtain ⟨h1, h2, h3, h4⟩ := exc_ok h
  exact ⟨by rw [hc]; exact h1, by rw [hc]; exact h2, by rw [hc]; exact h3, by rw [hc]; exact h4, by rw [hc]; exact hm⟩
section
variable {cl : Cl} {X : Cx} {G : Ge} {d : Nat} {W : WX} {x m : Str} {c : Nat} {j : Nat} {p p1 p2 pos : Pos}
theorem ss_raise0 : SS G d W (fun _ σ H => W (.ref (G.cl c)) none σ H) (S.raise0 c) := fun A0 F0 H0 A env σ F H D R o =>
  o A σ F H none R (.inl ⟨rfl, rfl, rfl⟩)
theorem ds_raise0 (Q : X0ok cl X.K X.mg x c) (tk : Takes X W := by exact tk_of) (hc : X.calm = true := by rfl) (hg : Gl X x := by rfl) (hdb : (x == ("__debug__" : Str)) = false := by decide) :
    DS cl X d W (.Raise (some (.Call (.Name x p) [.Constant (.str m) j p2] [] p1)) none pos) (S.raise0 c) :=
  ⟨_, ps_raise hc tk (pmk_own (bmB := veBase) PySem.F.excBase_ValueError Q.ex Q.mg Q.kp (raises_own Q.sub Q.ty) hg hdb), ss_raise0⟩
end
end Py

set_option Elab.async false
set_option linter.all false
set_option maxRecDepth 100000
set_option maxHeartbeats 4000000
namespace Py
open PySem L2 PySem.Spec PyProof.Rows Evl

/-! ### a pinned instance changes nothing of what stands for a tree -/
def Cl.pinned (cl : Cl) (x : Option (Nat × Addr)) : Cl := { cl with pin := x }
section
variable {K : PySem.W.Frag} {cl : Cl} {x : Option (Nat × Addr)} {A : Al} {F : Hp}
mutual
theorem rep.toPin : ∀ {t : T} {v : V}, rep ⟨K, cl⟩ A F t v → rep ⟨K, cl.pinned x⟩ A F t v
  | .non, _, h => h
  | .bl _, _, h => h
  | .int _, _, h => h
  | .str _, _, h => h
  | .lst _ _, _, ⟨a, vs, e1, e2, e3, e4⟩ => ⟨a, vs, e1, e2, e3, reps.toPin e4⟩
  | .tup _, _, ⟨a, vs, e1, e2, e4⟩ => ⟨a, vs, e1, e2, reps.toPin e4⟩
  | .ro _, _, ⟨a, vs, e1, e2, e4⟩ => ⟨a, vs, e1, e2, reps.toPin e4⟩
  | .ins _ _ _ _, _, ⟨a, dx, vs, e1, e2, e3, e5, e4⟩ => ⟨a, dx, vs, e1, e2, e3, e5, reps.toPin e4⟩
  | .exn _ _ _, _, ⟨a, cls, dx, e1, e2, e3, e4⟩ => ⟨a, cls, dx, e1, e2, e3, match e4 with
    | .inl z => .inl z
    | .inr ⟨dd, vs, k1, k2, k3, k4⟩ => .inr ⟨dd, vs, k1, k2, k3, reps.toPin k4⟩⟩
theorem reps.toPin : ∀ {ts : List T} {vs : List V}, reps ⟨K, cl⟩ A F ts vs → reps ⟨K, cl.pinned x⟩ A F ts vs
  | [], _, h => h
  | _ :: _, _, ⟨v, ws, e1, e2, e3⟩ => ⟨v, ws, e1, rep.toPin e2, reps.toPin e3⟩
end
mutual
theorem rep.ofPin : ∀ {t : T} {v : V}, rep ⟨K, cl.pinned x⟩ A F t v → rep ⟨K, cl⟩ A F t v
  | .non, _, h => h
  | .bl _, _, h => h
  | .int _, _, h => h
  | .str _, _, h => h
  | .lst _ _, _, ⟨a, vs, e1, e2, e3, e4⟩ => ⟨a, vs, e1, e2, e3, reps.ofPin e4⟩
  | .tup _, _, ⟨a, vs, e1, e2, e4⟩ => ⟨a, vs, e1, e2, reps.ofPin e4⟩
  | .ro _, _, ⟨a, vs, e1, e2, e4⟩ => ⟨a, vs, e1, e2, reps.ofPin e4⟩
  | .ins _ _ _ _, _, ⟨a, dx, vs, e1, e2, e3, e5, e4⟩ => ⟨a, dx, vs, e1, e2, e3, e5, reps.ofPin e4⟩
  | .exn _ _ _, _, ⟨a, cls, dx, e1, e2, e3, e4⟩ => ⟨a, cls, dx, e1, e2, e3, match e4 with
    | .inl z => .inl z
    | .inr ⟨dd, vs, k1, k2, k3, k4⟩ => .inr ⟨dd, vs, k1, k2, k3, reps.ofPin k4⟩⟩
theorem reps.ofPin : ∀ {ts : List T} {vs : List V}, reps ⟨K, cl.pinned x⟩ A F ts vs → reps ⟨K, cl⟩ A F ts vs
  | [], _, h => h
  | _ :: _, _, ⟨v, ws, e1, e2, e3⟩ => ⟨v, ws, e1, rep.ofPin e2, reps.ofPin e3⟩
end
theorem xrep.ofPin {e : Exn} {dx : Option Addr} (h : xrep ⟨K, cl.pinned x⟩ A F e dx) : xrep ⟨K, cl⟩ A F e dx := by
  rcases h with h | ⟨d, vs, h1, h2, h3, h4⟩
  · exact .inl h
  · exact .inr ⟨d, vs, h1, h2, h3, h4.ofPin⟩
theorem xrep.toPin {e : Exn} {dx : Option Addr} (h : xrep ⟨K, cl⟩ A F e dx) : xrep ⟨K, cl.pinned x⟩ A F e dx := by
  rcases h with h | ⟨d, vs, h1, h2, h3, h4⟩
  · exact .inl h
  · exact .inr ⟨d, vs, h1, h2, h3, h4.toPin⟩
/-- a call's promise is the same -/
theorem spT_pin {n : Nat} {f : Nat → List T → Res T} : spT ⟨K, cl.pinned x⟩ n f = spT ⟨K, cl⟩ n f := by
  funext vs H Q E
  apply propext
  constructor
  · rintro ⟨hl, d, A, F, ts, h1, h2, h3, h4, o⟩
    refine ⟨hl, d, A, F, ts, h1, h2, h3, h4.ofPin, ?_⟩
    cases z : f d ts with
    | ok t => rw [z] at o; exact fun v F1 H1 g r => o v F1 H1 g r.toPin
    | er e => rw [z] at o; exact fun dx F1 H1 g r => o dx F1 H1 g r.toPin
    | stuck => rw [z] at o; exact o
  · rintro ⟨hl, d, A, F, ts, h1, h2, h3, h4, o⟩
    refine ⟨hl, d, A, F, ts, h1, h2, h3, h4.toPin, ?_⟩
    cases z : f d ts with
    | ok t => rw [z] at o; exact fun v F1 H1 g r => o v F1 H1 g r.ofPin
    | er e => rw [z] at o; exact fun dx F1 H1 g r => o dx F1 H1 g r.ofPin
    | stuck => rw [z] at o; exact o
end
theorem Dok.pin {cl : Cl} {x : Option (Nat × Addr)} {P : Program} {w : World} {K : PySem.W.Frag} {mg : Str → Option Value} {base : Heap} {y : Str} {k n : Nat} {f : Nat → List T → Res T} (D : Dok cl P w K mg base y k n f) : Dok (cl.pinned x) P w K mg base y k n f := by
  obtain ⟨fa, fd, ps, h1, h2, h3, h4⟩ := D
  exact ⟨fa, fd, ps, by rw [spT_pin]; exact h1, h2, h3, h4⟩
end Py

set_option Elab.async false
set_option linter.all false
set_option maxRecDepth 100000
set_option maxHeartbeats 4000000
namespace Py
open PySem L2 PySem.Spec PyProof.Rows Evl

/-! ### __init__ of a plain class, making an instance -/
abbrev Fld := List Str × List T
def finI (c : Nat) : RS → Res Fld
  | .nx env => (match env[0]? with
    | some (some (Sl.oi c' ns ts)) => if c' = c then .ok (ns, ts) else .stuck
    | _ => .stuck)
  | .er e _ => .er e
  | _ => .stuck
def entI (n c : Nat) (ts : List T) : Fv := some (.oi c [] []) :: ent (n - 1) ts
def runI (n c : Nat) (s : Sx) (ts : List T) : Res Fld := finI c (s (entI n c ts))
def OutI (G : Ge) (A : Al) (c : Nat) (a : Addr) (F H : Hp) (Q : VK) (E : XK) : Res Fld → Prop
  | .ok r => ∀ F1 H1 vs dx, Grow F (del H a) F1 H1 → F1 a = none → H1 a = some (.ins (G.cl c) dx (r.1.zip vs)) → vs.length = r.1.length → reps G A F1 r.2 vs → Q .non H1
  | .er e => ∀ dx F1 H1, Grow F (del H a) F1 H1 → xrep G A F1 e dx → E (.ref (G.cl e.c)) dx H1
  | .stuck => False
def spI (G : Ge) (c n : Nat) (f : Nat → List T → Res Fld) : Sp := fun vs H Q E => ∃ a dx ws, vs = .ref a :: ws ∧ ws.length = n ∧ H a = some (.ins (G.cl c) dx []) ∧ ∃ d A F ts, AOk A F ∧ (∀ g b, A g = some b → g.1 < d) ∧ Ex F H ∧ F a = none ∧ reps G A F ts ws ∧ OutI G A c a F H Q E (f d ts)
section
variable {K : PySem.W.Frag} {cl : Cl} {d c : Nat} {A0 : Al} {F0 H : Hp} {N : List Str} {ts : List T} {ws : List V} {a dx : Addr}
theorem ex_del : Ex (del H a) H := fun b o h => by
  by_cases q : b = a
  · rw [q, del_same] at h; cases h
  · rw [del_ne q] at h; exact h
theorem rel_startI (ok : AOk A0 F0) (dep : ∀ g b, A0 g = some b → g.1 < d) (e : Ex F0 H) (ha : H a = some (.ins (cl.f c) dx [])) (hf : F0 a = none) (r : reps ⟨K, cl⟩ A0 F0 ts ws) (hl : ts.length + 1 ≤ N.length) (hp : cl.pin = none) :
    Rel ⟨K, cl.pinned (some (d, a))⟩ d A0 F0 (del H a) (fun g => if g = (d, 0) then some a else A0 g) (entI N.length c ts) (L2.start N (.ref a :: ws)) F0 H := by
  have R0 := rel_start (G := ⟨K, cl⟩) (N := N.tail) ok dep e r (by rw [List.length_tail]; omega) hp
  have en : entI N.length c ts = some (.oi c [] []) :: ent N.tail.length ts := by unfold entI; rw [List.length_tail]
  have es : L2.start N (.ref a :: ws) = some (.ref a) :: L2.start N.tail ws := by
    unfold L2.start
    rw [List.map_cons, List.length_cons, List.length_tail, List.cons_append]
    congr 2
    rw [Nat.sub_sub, Nat.add_comm]
  have na : ∀ g, A0 g ≠ some a := fun g z => ok.al g a z hf
  rw [en, es]
  refine ⟨ok, dep, by rw [List.length_cons, List.length_cons, R0.len], fun g z => ?_, fun g b z => ?_, fun g g' b z y => ?_, fun j b z => ?_, Ex.refl _, e, ex_del, fun b h _ => h, fun j u y => ?_, fun j u y => ?_, fun j c' ns u y => ?_, fun b z => ?_⟩
  · rw [if_neg (fun y => by rw [y] at z; exact absurd z (Nat.lt_irrefl _))]
  · by_cases q : g = (d, 0)
    · rw [q]; exact Nat.le_refl _
    · rw [if_neg q] at z; exact Nat.le_of_lt (dep g b z)
  · by_cases q : g = (d, 0)
    · by_cases q' : g' = (d, 0)
      · rw [q, q']
      · rw [if_pos q] at z; rw [if_neg q'] at y
        cases z
        exact absurd y (na g')
    · by_cases q' : g' = (d, 0)
      · rw [if_neg q] at z; rw [if_pos q'] at y
        cases y
        exact absurd z (na g)
      · rw [if_neg q] at z; rw [if_neg q'] at y
        exact ok.inj g g' b z y
  · by_cases q : (d, j) = (d, 0)
    · rw [if_pos q] at z
      cases z
      exact ⟨hf, del_same, by rw [ha]; trivial⟩
    · rw [if_neg q] at z
      exact absurd (dep _ _ z) (Nat.lt_irrefl _)
  · cases j with
    | zero => cases y
    | succ j =>
      obtain ⟨v, k1, k2⟩ := R0.fz j u y
      exact ⟨v, k1, k2.toPin⟩
  · cases j with
    | zero => cases y
    | succ j =>
      obtain ⟨p, vs, k1, k2, k3⟩ := R0.ol j u y
      exact absurd (dep _ _ k2) (Nat.lt_irrefl _)
  · cases j with
    | zero =>
      cases y
      exact ⟨a, dx, [], rfl, if_pos rfl, ha, rfl, rfl⟩
    | succ j =>
      obtain ⟨p, dx', vs, k1, k2, k3⟩ := R0.oi j c' ns u y
      exact absurd (dep _ _ k2) (Nat.lt_irrefl _)
  · have z' : some (d, a) = some (d, b) := z
    cases z'
    exact if_pos rfl
theorem bodyI_ok {Q : VK} {E : XK} {t : TS} {s : Sx} (h : SS ⟨K, cl.pinned (some (d, a))⟩ d (fun cls dx _ H => E cls dx H) t s) (ok : AOk A0 F0) (dep : ∀ g b, A0 g = some b → g.1 < d) (e : Ex F0 H) (ha : H a = some (.ins (cl.f c) dx [])) (hf : F0 a = none) (r : reps ⟨K, cl⟩ A0 F0 ts ws) (hl : ts.length + 1 ≤ N.length) (hp : cl.pin = none)
    (o : OutI ⟨K, cl⟩ A0 c a F0 H Q E (runI N.length c s ts)) : t { nx := fun _ H' => Q .non H', rt := Q } (L2.start N (.ref a :: ws)) H := by
  refine h A0 F0 (del H a) _ _ _ F0 H _ (rel_startI ok dep e ha hf r hl hp) ?_
  unfold runI at o
  cases z : s (entI N.length c ts) with
  | nx env =>
    rw [z] at o
    intro A σ F H1 R
    have o' : OutI ⟨K, cl⟩ A0 c a F0 H Q E (match env[0]? with
      | some (some (Sl.oi c' ns ts)) => if c' = c then .ok (ns, ts) else .stuck
      | _ => .stuck) := o
    cases q : env[0]? with
    | none => rw [q] at o'; exact o'.elim
    | some s0 =>
      cases s0 with
      | none => rw [q] at o'; exact o'.elim
      | some s0 =>
        cases s0 with
        | fz t => rw [q] at o'; exact o'.elim
        | ol t => rw [q] at o'; exact o'.elim
        | oi c' ns us =>
          rw [q] at o'
          by_cases hc : c' = c
          · subst hc
            have o2 : OutI ⟨K, cl⟩ A0 c' a F0 H Q E (if c' = c' then .ok (ns, us) else .stuck) := o'
            rw [if_pos rfl] at o2
            obtain ⟨p, dx1, vs, k1, k2, k3, k4, k5⟩ := R.oi 0 c' ns us q
            have k6 := R.pin a rfl
            rw [k2] at k6
            cases k6
            exact o2 F H1 vs dx1 R.growF (R.own 0 _ k2).1 k3 k4 k5.ofPin
          · have o2 : OutI ⟨K, cl⟩ A0 c a F0 H Q E (if c' = c then .ok (ns, us) else .stuck) := o'
            rw [if_neg hc] at o2
            exact o2.elim
  | rt t => rw [z] at o; exact o.elim
  | er e env => rw [z] at o; exact fun A σ F H dx R x => o dx F H R.growF x.ofPin
  | br env => rw [z] at o; exact o.elim
  | ct env => rw [z] at o; exact o.elim
  | stuck => rw [z] at o; exact o.elim
end
end Py

set_option Elab.async false
set_option linter.all false
set_option maxRecDepth 100000
set_option maxHeartbeats 4000000
namespace Py
open PySem L2 PySem.Spec PyProof.Rows Evl
/-- C(e, ..), the instance frozen at once -/
def P.make (c : Nat) (f : List T → Res Fld) (a : P.Ax) : P.Ex1 := fun env => (a env).bind fun ts => (f ts).bind fun r => .ok (.ins none c r.1 r.2)
section
variable {G : Ge} {d c n : Nat} {W : WX} {tl : TA} {a : P.Ax} {f : Nat → List T → Res Fld}
theorem se_make (hn : ∀ env xs, a env = .ok xs → xs.length = n) (hl : SA G d W tl a) : SE G d W (tMkS (G.cl c) (spI G c n f) (WE W) tl) (P.make c (f (d + 1)) a) := fun A env σ F H Q R e o => by
  have o' : Out G A F H Q (WE W σ) ((a env).bind fun ts => (f (d + 1) ts).bind fun r => .ok (.ins none c r.1 r.2)) := o
  have hn' := hn env
  refine hl A env σ F H _ R e ?_
  cases q : a env with
  | er e => rw [q] at o'; exact o'
  | stuck => rw [q] at o'; exact o'
  | ok xs =>
    rw [q] at o'
    intro vs F1 H1 g1 rs p dx hp hd hne
    have hF1 : F1 p = none := none_of_ex g1.sub hp
    have sub1 : Ex F1 (upd (upd H1 dx (.own p)) p (.ins (G.cl c) dx [])) := fun b u y => by
      have h1 := g1.sub b u y
      have n1 : b ≠ p := fun z => by rw [z, hp] at h1; cases h1
      have n2 : b ≠ dx := fun z => by rw [z, hd] at h1; cases h1
      rw [upd_ne n1, upd_ne n2]
      exact h1
    have keep : ∀ {H2 : Hp}, Ex (del (upd (upd H1 dx (.own p)) p (.ins (G.cl c) dx [])) p) H2 → Ex H1 H2 := fun {H2} k b u y => by
      have n1 : b ≠ p := fun z => by rw [z, hp] at y; cases y
      have n2 : b ≠ dx := fun z => by rw [z, hd] at y; cases y
      exact k b u (by rw [del_ne n1, upd_ne n1, upd_ne n2]; exact y)
    have sep : ∀ {F2 H2 : Hp}, Grow F1 (del (upd (upd H1 dx (.own p)) p (.ins (G.cl c) dx [])) p) F2 H2 → ∀ b, F1 b = none → H1 b ≠ none → F2 b = none := fun {F2 H2} k b y z => by
      have n1 : b ≠ p := fun w => z (by rw [w]; exact hp)
      have n2 : b ≠ dx := fun w => z (by rw [w]; exact hd)
      exact k.sep b y (by rw [del_ne n1, upd_ne n1, upd_ne n2]; exact z)
    have og := Outg.step g1 o'
    refine ⟨p, dx, vs, rfl, by rw [rs.length]; exact hn' xs q, upd_same, d + 1, A, F1, xs, R.ok.mono g1.ex, fun g b z => Nat.lt_succ_of_le (R.dep g b z), sub1, hF1, rs, ?_⟩
    rw [Res.bind_ok] at og
    cases z : f (d + 1) xs with
    | stuck => rw [z] at og; exact og
    | er e2 => rw [z] at og; exact fun dx2 F2 H2 g2 x => og dx2 F2 H2 ⟨g2.ex, g2.sub, keep g2.keep, sep g2⟩ x
    | ok r =>
      rw [z, Res.bind_ok] at og
      intro F2 H2 ws dx2 g2 hF2 hH2 hl2 rs2
      refine ⟨rfl, og (.ref p) (upd F2 p (.ins (G.cl c) dx2 (r.1.zip ws))) H2 ⟨g2.ex.trans (Ex.new hF2), fun b u y => ?_, keep g2.keep, fun b y w => ?_⟩ ⟨p, dx2, ws, rfl, upd_same, hl2, (R.ok.mono g1.ex).new hF1, rs2.mono (Ex.new hF2)⟩⟩
      · by_cases k : b = p
        · rw [k, upd_same] at y; rw [k, hH2]; exact y
        · rw [upd_ne k] at y; exact g2.sub b u y
      · rw [upd_ne (fun k => w (by rw [k]; exact hp))]
        exact sep g2 b y w
end
end Py

set_option Elab.async false
set_option linter.all false
set_option maxRecDepth 100000
set_option maxHeartbeats 4000000
namespace Py
open PySem L2 PySem.Spec PyProof.Rows Evl He

/-! ### C(e, ..), own classes as their makers use them -/
structure Iok (cl : Cl) (P : Program) (w : World) (K : PySem.W.Frag) (mg : Str → Option Value) (base : Heap) (x : Str) (c k n : Nat) (f : Nat → List T → Res Fld) : Prop where
  ex : ∃ fI fd ps, Mk K (cl.f c) fI ∧ FnOk P w K mg base (L2.CX P w) k fI fd ps (spI ⟨K, cl⟩ c n f) ∧ Binds K fd ps [] ∧ mg x = some (.ref (cl.f c))
section
variable {cl : Cl} {X : Cx} {d c k n : Nat} {W : WX} {e : Expr} {es : List Expr} {a : P.Ax} {x : Str} {f : Nat → List T → Res Fld} {p1 pos : Pos}
theorem de_make (D : Iok cl X.prog X.w X.K X.mg X.base x c k n f) (hr : Room (k + 1) X.A) (ha : DA cl X d W (e :: es) a) (hn : ∀ env xs, a env = .ok xs → xs.length = n) (tk : Takes X W := by first | exact tk_of | exact takes0) (hg : Gl X x := by rfl) (hdb : (x == ("__debug__" : Str)) = false := by decide)
    (he : starEach (e :: es) X.env = (false, eval e X.env) :: starEach es X.env := by rfl) (hpl : (backTo pos (starEach es X.env)).any (·.1) = false := by rfl) : DE cl X d W (.Call (.Name x p1) (e :: es) [] pos) (P.make c (f (d + 1)) a) := by
  obtain ⟨fI, fd, ps, M, F, hb, hm⟩ := D
  obtain ⟨t, c1, c2⟩ := ha
  exact ⟨_, pe_mkS M F hr hg hm hb (fun σ => passAt tk σ) c1 hdb he hpl, se_make hn c2⟩
end
section
variable {cl : Cl} {P : Program} {w : World} {K : PySem.W.Frag} {mg : Str → Option Value} {base : Heap} {x qual : Str} {params : Arguments} {body : List Stmt} {scope : Scope} {fI : Addr} {fd : FuncData} {N ps : List Str} {k n c : Nat} {fT : Nat → List T → Res Fld} {sT : Nat → Sx}
theorem init_ok (F : FunD K "__init__" qual params body scope [] [] fI fd) (S : FnScope N ps scope) (hn : n + 1 = ps.length) (hle : ps.length ≤ N.length) (p0 : cl.pin = none) (hf : ∀ d ts, fT d ts = runI N.length c (sT d) ts)
    (h : ∀ (d : Nat) (a : Addr) (cdv : Value) (A : Around) (outer : List Env) (s : Shared) (H : Hp) (E : XK), Room k (A.deeper (envOfC qual scope s.heap.objs.size fI cdv)) → DB (cl.pinned (some (d, a))) (XOf P w K mg base N qual scope fI cdv A outer s H E) d (WOf E) body (sT d)) :
    FnOk P w K mg base (L2.CX P w) (k + 1) fI fd ps (spI ⟨K, cl⟩ c n fT) := by
  refine F.ok S (fun vs H Q E h => ?_) (fun cdv A outer s H vs Q E hr hsp => ?_)
  · obtain ⟨a, dx, ws, rfl, hl, _⟩ := h
    rw [List.length_cons, hl, hn]
  · obtain ⟨a, dx, ws, rfl, hl, ha, d, A0, F0, ts, ok, dep, e, hF, r, o⟩ := hsp
    obtain ⟨t, a1, a2⟩ := h d a cdv A outer s H E hr
    refine ⟨t, a1, bodyI_ok (N := N) a2 ok dep e ha hF r (by rw [← r.length, hl, hn]; exact hle) p0 ?_⟩
    rw [← hf]
    exact o
theorem iok_of (M : Mk K (cl.f c) fI) (hm : mg x = some (.ref (cl.f c))) (F : FunD K "__init__" qual params body scope [] [] fI fd) (S : FnScope N ps scope) (hn : n + 1 = ps.length) (hle : ps.length ≤ N.length) (p0 : cl.pin = none) (hf : ∀ d ts, fT d ts = runI N.length c (sT d) ts)
    (hb : ∀ (kV doc pm : Value) (an : Option Addr) (cdv ct : Value) (us : List Value), us.length = ps.length → bindArgs (PySem.W.fnOf "__init__" qual params body scope .none kV doc pm an cdv ct) ⟨us, []⟩ = pure (ps.zip us))
    (h : ∀ (d : Nat) (a : Addr) (cdv : Value) (A : Around) (outer : List Env) (s : Shared) (H : Hp) (E : XK), Room k (A.deeper (envOfC qual scope s.heap.objs.size fI cdv)) → DB (cl.pinned (some (d, a))) (XOf P w K mg base N qual scope fI cdv A outer s H E) d (WOf E) body (sT d)) :
    Iok cl P w K mg base x c (k + 1) n fT := ⟨fI, fd, ps, M, init_ok F S hn hle p0 hf h, F.bindsN hb, hm⟩
end
/-- .. under a pin -/
theorem spI_pin {K : PySem.W.Frag} {cl : Cl} {x : Option (Nat × Addr)} {c n : Nat} {f : Nat → List T → Res Fld} : spI ⟨K, cl.pinned x⟩ c n f = spI ⟨K, cl⟩ c n f := by
  funext vs H Q E
  apply propext
  constructor
  · rintro ⟨a, dx, ws, h1, h2, h3, d, A, F, ts, k1, k2, k3, k4, k5, o⟩
    refine ⟨a, dx, ws, h1, h2, h3, d, A, F, ts, k1, k2, k3, k4, k5.ofPin, ?_⟩
    cases z : f d ts with
    | ok t => rw [z] at o; exact fun F1 H1 vs dx g e1 e2 e3 r => o F1 H1 vs dx g e1 e2 e3 r.toPin
    | er e => rw [z] at o; exact fun dx F1 H1 g r => o dx F1 H1 g r.toPin
    | stuck => rw [z] at o; exact o
  · rintro ⟨a, dx, ws, h1, h2, h3, d, A, F, ts, k1, k2, k3, k4, k5, o⟩
    refine ⟨a, dx, ws, h1, h2, h3, d, A, F, ts, k1, k2, k3, k4, k5.toPin, ?_⟩
    cases z : f d ts with
    | ok t => rw [z] at o; exact fun F1 H1 vs dx g e1 e2 e3 r => o F1 H1 vs dx g e1 e2 e3 r.ofPin
    | er e => rw [z] at o; exact fun dx F1 H1 g r => o dx F1 H1 g r.ofPin
    | stuck => rw [z] at o; exact o
theorem Iok.pin {cl : Cl} {x : Option (Nat × Addr)} {P : Program} {w : World} {K : PySem.W.Frag} {mg : Str → Option Value} {base : Heap} {y : Str} {c k n : Nat} {f : Nat → List T → Res Fld} (D : Iok cl P w K mg base y c k n f) : Iok (cl.pinned x) P w K mg base y c k n f := by
  obtain ⟨fa, fd, ps, h1, h2, h3, h4⟩ := D
  exact ⟨fa, fd, ps, h1, by rw [spI_pin]; exact h2, h3, h4⟩
theorem Xok.pin {cl : Cl} {x : Option (Nat × Addr)} {P : Program} {w : World} {K : PySem.W.Frag} {mg : Str → Option Value} {base : Heap} {y : Str} {c : Nat} {ns : List Str} (D : Xok cl P w K mg base y c ns) : Xok (cl.pinned x) P w K mg base y c ns := by
  obtain ⟨fI, fd, ps, k, h⟩ := D
  exact ⟨fI, fd, ps, k, h⟩
theorem X0ok.pin {cl : Cl} {x : Option (Nat × Addr)} {K : PySem.W.Frag} {mg : Str → Option Value} {y : Str} {c : Nat} (D : X0ok cl K mg y c) : X0ok (cl.pinned x) K mg y c := ⟨D.ex, D.kp, D.sub, D.ty, D.mg⟩
end Py

set_option Elab.async false
set_option linter.all false
set_option maxRecDepth 100000
set_option maxHeartbeats 4000000
namespace Py
open PySem L2 PySem.Spec PyProof.Rows Evl

/-! ### over the whole frame: what holds nothing of the frame's own may stay -/
mutual
def T.fr : T → Bool
  | .non => true
  | .bl _ => true
  | .int _ => true
  | .str _ => true
  | .lst g ts => g.isNone && T.frs ts
  | .tup ts => T.frs ts
  | .ins g _ _ ts => g.isNone && T.frs ts
  | _ => false
def T.frs : List T → Bool
  | [] => true
  | t :: ts => t.fr && T.frs ts
end
section
variable {G : Ge} {d : Nat} {A0 A : Al} {F0 H0 F H F1 H1 : Hp} {env : Fv} {σ : L2.St}
theorem Rel.ground (R : Rel G d A0 F0 H0 A env σ F H) {a : Addr} {o : HO} (h : F1 a = some o) (hn : ∀ g, A g ≠ some a) : minus d A F1 a = some o ∧ ∀ g, A0 g ≠ some a := by
  refine ⟨by rw [minus_not fun i => hn (d, i)]; exact h, fun g z => ?_⟩
  refine hn g ?_
  rw [R.agree g (R.dep0 g a z)]
  exact z
theorem Rel.noTag (R : Rel G d A0 F0 H0 A env σ F H) {a : Addr} (h : tagOk A none a) : tagOk A0 none a := fun g z => h g (by rw [R.agree g (R.dep0 g a z)]; exact z)
theorem Rel.tupOut (R : Rel G d A0 F0 H0 A env σ F H) (g : Grow (plus d A F H) H F1 H1) {a : Addr} {vs : List V} (h : SqT G.K F1 a vs) : SqT G.K (minus d A F1) a vs := by
  have key : ∀ o, F1 a = some o → (¬ OwnO (some o)) → minus d A F1 a = some o := fun o e no => by
    rw [minus_not fun i z => ?_]
    · exact e
    · obtain ⟨y1, y2, y3⟩ := R.own i a z
      cases y4 : H a with
      | none => exact y3.ne y4
      | some o4 =>
        have y5 : plus d A F H a = some o4 := by rw [plus_own z]; exact y4
        have y6 := g.ex _ _ y5
        rw [e] at y6
        cases y6
        rw [y4] at y3
        exact no y3
  rcases h with (h | ⟨o, h⟩) | h
  · exact .inl (.inl (key _ h fun z => z))
  · exact .inl (.inr ⟨o, key _ h fun z => z⟩)
  · exact .inr h
mutual
theorem rep.out (R : Rel G d A0 F0 H0 A env σ F H) (g : Grow (plus d A F H) H F1 H1) : ∀ {t : T} {v : V}, t.fr = true → rep G A F1 t v → rep G A0 (minus d A F1) t v
  | .non, _, _, h => h
  | .bl _, _, _, h => h
  | .int _, _, _, h => h
  | .str _, _, _, h => h
  | .lst gg ts, _, f, ⟨a, vs, e1, e2, e3, e4⟩ => by
    obtain ⟨f1, f2⟩ := band (show (gg.isNone && T.frs ts) = true from f)
    cases gg with
    | some _ => cases f1
    | none =>
      obtain ⟨k1, k2⟩ := R.ground e2 e3
      exact ⟨a, vs, e1, k1, k2, reps.out R g f2 e4⟩
  | .tup _, _, f, ⟨a, vs, e1, e2, e4⟩ => ⟨a, vs, e1, R.tupOut g e2, reps.out R g f e4⟩
  | .ro _, _, f, _ => by cases f
  | .ins gg c ns ts, _, f, ⟨a, dx, vs, e1, e2, e3, e5, e4⟩ => by
    obtain ⟨f1, f2⟩ := band (show (gg.isNone && T.frs ts) = true from f)
    cases gg with
    | some _ => cases f1
    | none =>
      obtain ⟨k1, k2⟩ := R.ground e2 e5
      exact ⟨a, dx, vs, e1, k1, e3, k2, reps.out R g f2 e4⟩
  | .exn _ _ _, _, f, _ => by cases f
theorem reps.out (R : Rel G d A0 F0 H0 A env σ F H) (g : Grow (plus d A F H) H F1 H1) : ∀ {ts : List T} {vs : List V}, T.frs ts = true → reps G A F1 ts vs → reps G A0 (minus d A F1) ts vs
  | [], _, _, h => h
  | t :: ts, _, f, ⟨v, ws, e1, e2, e3⟩ => by
    obtain ⟨f1, f2⟩ := band (show (t.fr && T.frs ts) = true from f)
    exact ⟨v, ws, e1, rep.out R g f1 e2, reps.out R g f2 e3⟩
end
end
/-- what is raised holds nothing of the frame's own -/
def Res.thenY {α : Type} (m : Res α) (env : Fv) (k : α → RS) : RS := match m with
  | .ok a => k a
  | .er e => if T.frs e.ts = true then .er e env else .stuck
  | .stuck => .stuck
@[simp] theorem Res.thenY_ok {α : Type} (a : α) (env : Fv) (k : α → RS) : Res.thenY (.ok a) env k = k a := nrfl rfl
@[simp] theorem Res.thenY_er {α : Type} (e : Exn) (env : Fv) (k : α → RS) : Res.thenY (.er e) env k = if T.frs e.ts = true then .er e env else .stuck := nrfl rfl
@[simp] theorem Res.thenY_stuck {α : Type} (env : Fv) (k : α → RS) : Res.thenY (.stuck) env k = .stuck := nrfl rfl
namespace S
def asgY (i : Nat) (p : P.Ex1) : Sx := fun env => (p env).thenY env fun t => if t.fr = true ∧ i < env.length then .nx (env.set i (some (.fz t))) else .stuck
def retY (p : P.Ex1) : Sx := fun env => (p env).thenY env fun t => if t.fr = true then .rt t else .stuck
def exprY (p : P.Ex1) : Sx := fun env => (p env).thenY env fun _ => .nx env
def fsetY (c i : Nat) (f : Str) (p : P.Ex1) : Sx := fun env => (p env).thenY env fun t => match env[i]? with
  | some (some (.oi c' ns ts)) => if t.fr = true ∧ c' = c ∧ ns.contains f = false ∧ ns.length < 1000 then .nx (env.set i (some (.oi c (ns ++ [f]) (ts ++ [t])))) else .stuck
  | _ => .stuck
def appY (i : Nat) (p : P.Ex1) : Sx := fun env => match env[i]? with
  | some (some (.ol ts)) => (p env).thenY env fun t => if t.fr = true ∧ ts.length < sizeLine then .nx (env.set i (some (.ol (ts ++ [t])))) else .stuck
  | _ => .stuck
def setY (i : Nat) (k p : P.Ex1) : Sx := fun env => match env[i]? with
  | some (some (.ol ts)) => (p env).thenY env fun t => (k env).thenY env fun j => (match j with
    | .int z => (match ixN ts.length z with
      | some m => if t.fr = true then .nx (env.set i (some (.ol (ts.set m t)))) else .stuck
      | none => .stuck)
    | _ => .stuck)
  | _ => .stuck
end S
section
variable {G : Ge} {d : Nat} {W : WX} {A0 A : Al} {F0 H0 F H : Hp} {env : Fv} {σ : L2.St} {D : Ends}
variable {te tk : TE} {p q : P.Ex1} {i c : Nat} {f : Str}
theorem Rel.outY {α β : Type} {Rp : Hp → α → β → Prop} (R : Rel G d A0 F0 H0 A env σ F H) {m : Res α} {k : α → RS} {Q : β → Hp → Prop} (o : OutS G d A0 F0 H0 W D (m.thenY env k))
    (h : ∀ r v F1 H1, Grow (plus d A F H) H F1 H1 → Rel G d A0 F0 H0 A env σ (minus d A F1) H1 → Rp F1 r v → OutS G d A0 F0 H0 W D (k r) → Q v H1) : Outg G A (plus d A F H) H Rp Q (WE W σ) m := by
  cases m with
  | ok r => exact fun v F1 H1 g r => h _ v _ H1 g (R.grow (R.low g)) r o
  | er e =>
    have o' : OutS G d A0 F0 H0 W D (if T.frs e.ts = true then .er e env else .stuck) := o
    obtain ⟨fe, o'⟩ := OutS.of_if o'
    refine fun dx F1 H1 g x => o' A σ _ H1 dx (R.grow (R.low g)) ?_
    rcases x with x | ⟨dd, vs, h1, h2, h3, h4⟩
    · exact .inl x
    · refine .inr ⟨dd, vs, h1, ?_, h3, reps.out R g fe h4⟩
      rw [minus_not fun i y => ?_]
      · exact h2
      · obtain ⟨y1, y2, y3⟩ := R.own i dd y
        cases y4 : H dd with
        | none => exact y3.ne y4
        | some o4 =>
          have y5 : plus d A F H dd = some o4 := by rw [plus_own y]; exact y4
          have y6 := g.ex _ _ y5
          rw [h2] at y6
          cases y6
          rw [y4] at y3
          exact y3
  | stuck => exact o
theorem Rel.runY (R : Rel G d A0 F0 H0 A env σ F H) (he : SE G d W te p) {k : T → RS} {Q : VK} (o : OutS G d A0 F0 H0 W D ((p env).thenY env k))
    (h : ∀ r v F1 H1, Rel G d A0 F0 H0 A env σ F1 H1 → (r.fr = true → rep G A0 F1 r v) → OutS G d A0 F0 H0 W D (k r) → Q v H1) : te σ H Q :=
  he A env σ _ H Q R.re R.subP (R.outY o fun r v F1 H1 g R1 r1 o1 => h r v _ H1 R1 (fun f => rep.out R g f r1) o1)
theorem ss_asgY (he : SE G d W te p) (hp : i = 0 → G.c.pin = none) : SS G d W (tAsg te (gName i)) (S.asgY i p) := fun A0 F0 H0 A env σ F H D R o =>
  R.runY he o fun r v F1 H1 R1 r1 o1 => by
    obtain ⟨⟨hf, hi⟩, o2⟩ := OutS.of_if o1
    obtain ⟨A', R2⟩ := R1.set (r1 hf) hi hp
    exact o2 A' _ F1 H1 R2
theorem ss_retY (he : SE G d W te p) : SS G d W (tRet te) (S.retY p) := fun A0 F0 H0 A env σ F H D R o =>
  R.runY he o fun r v F1 H1 R1 r1 o1 => by
    obtain ⟨hf, o2⟩ := OutS.of_if o1
    exact o2 v F1 H1 R1.growF (r1 hf)
theorem ss_exprY (he : SE G d W te p) : SS G d W (tDrop te) (S.exprY p) := fun A0 F0 H0 A env σ F H D R o =>
  R.runY he o fun r v F1 H1 R1 r1 o1 => o1 A σ F1 H1 R1
theorem ss_fsetY (hC : Cls G.K (G.cl c)) (hn : NoAttr G.K (G.cl c) f) (he : SE G d W te p) : SS G d W (sFld G.K (tVar i) te f) (S.fsetY c i f p) := fun A0 F0 H0 A env σ F H D R o => by
  refine R.runY he o fun r v F1 H1 R1 r1 o1 => ?_
  cases q : env[i]? with
  | none => rw [q] at o1; exact o1.elim
  | some s =>
    cases s with
    | none => rw [q] at o1; exact o1.elim
    | some s =>
      cases s with
      | fz t => rw [q] at o1; exact o1.elim
      | ol t => rw [q] at o1; exact o1.elim
      | oi c' ns ts =>
        rw [q] at o1
        obtain ⟨⟨hf, c0, c1, c2⟩, o2⟩ := OutS.of_if o1
        subst c0
        obtain ⟨pa, dx, vs, k1, k2, k3, k4, k5⟩ := R1.oi i c' ns ts q
        refine ⟨_, k1, pa, G.cl c', dx, _, rfl, k3, hC, hn, ?_, ?_⟩
        · rw [List.length_zip, k4, Nat.min_self]; exact c2
        · rw [putF_new k4 c1]
          exact o2 A σ F1 _ (R1.wrI q k1 k2 (by rw [List.length_append, List.length_append, k4]; rfl) (k5.append (reps.one (r1 hf))))
theorem ss_appY (he : SE G d W te p) : SS G d W (tDrop (tBM G.K "list" rAppend (tVar i) (tCons te tNil))) (S.appY i p) := fun A0 F0 H0 A env σ F H D R o => by
  unfold S.appY at o
  split at o
  · rename_i ts e
    obtain ⟨pa, vs, h1, h2, h3, h4⟩ := R.ol i ts e
    refine ⟨_, h1, Or.inl ⟨rfl, vs, SqL.of h3⟩, R.runY he o fun r v F1 H1 R1 r1 o1 => ?_⟩
    obtain ⟨⟨hf, hz⟩, o2⟩ := OutS.of_if o1
    obtain ⟨pb, vs1, k1, k2, k3, k4⟩ := R1.ol i ts e
    rw [h1] at k1
    cases k1
    refine ⟨_, vs1, v, rfl, rfl, k3, by rw [k4.length]; exact hz, ?_⟩
    exact o2 _ _ _ _ (R1.wr e h1 k2 (k4.append (reps.one (r1 hf))))
  · exact o.elim
theorem ss_setY (he : SE G d W te p) (hk : SE G d W tk q) : SS G d W (tAsg te (gSub (tVar i) tk rSetL)) (S.setY i q p) := fun A0 F0 H0 A env σ F H D R o => by
  unfold S.setY at o
  split at o
  · rename_i ts e
    refine R.runY he o fun r v F1 H1 R1 r1 o1 => ?_
    obtain ⟨pb, vs1, k1, k2, k3, k4⟩ := R1.ol i ts e
    refine ⟨_, k1, hk A env σ _ H1 _ R1.re R1.subP (R1.outY o1 fun j w F2 H2 g2 R2 r2 o2 => ?_)⟩
    cases j <;> (try exact o2.elim)
    rename_i z
    have hw : w = .int z := r2
    subst hw
    obtain ⟨pc, vs2, l1, l2, l3, l4⟩ := R2.ol i ts e
    rw [k1] at l1
    cases l1
    have o3 : OutS G d A0 F0 H0 W D (match ixN ts.length z with | some m => if r.fr = true then .nx (env.set i (some (.ol (ts.set m r)))) else .stuck | none => .stuck) := o2
    cases hm : ixN ts.length z with
    | none => rw [hm] at o3; exact o3.elim
    | some m =>
      rw [hm] at o3
      obtain ⟨hf, o4⟩ := OutS.of_if o3
      refine ⟨_, vs2, z, m, rfl, rfl, l3, by rw [l4.length]; exact hm, ?_⟩
      exact o4 _ _ _ _ (R2.wr e k1 l2 (l4.set m ((r1 hf).mono (R1.low g2).ex)))
  · exact o.elim
end
section
variable {cl : Cl} {X : Cx} {d : Nat} {W : WX} {e e2 : Expr} {p q : P.Ex1} {pos p1 : Pos} {i : Nat}
theorem ds_asgY {x : Str} {p' : Pos} (hN : X.N.Nodup) (h : DE cl X d W e p) (hi : X.N[i]? = some x := by rfl) (hx : Loc X.env.scope x := by first | exact Or.inl rfl | exact Or.inr rfl) (hs : swapsWith e (some (.Name x p')) pos.line X.env = pure false := by rfl)
    (hf : X.fn x = true ∨ X.env.scope.names.lookup x = some .local := by first | exact .inl rfl | exact .inr rfl) (hp : i = 0 → cl.pin = none := by first | (intro h; cases h) | (intro _; assumption)) : DS cl X d W (.Assign [.Name x p'] e pos) (S.asgY i p) := by
  obtain ⟨t, a1, a2⟩ := h
  exact ⟨_, ps_set hN hi hx a1 hs hf, ss_asgY a2 hp⟩
theorem ds_retY (h : DE cl X d W e p) : DS cl X d W (.Return (some e) pos) (S.retY p) := by
  obtain ⟨t, a1, a2⟩ := h
  exact ⟨_, ps_ret a1, ss_retY a2⟩
theorem ds_exprY (h : DE cl X d W e p) (hs : swapsWith e none pos.line X.env = pure false := by rfl) : DS cl X d W (.Expr e pos) (S.exprY p) := by
  obtain ⟨t, a1, a2⟩ := h
  exact ⟨_, ps_expr a1 hs, ss_exprY a2⟩
theorem ds_fsetY {c : Nat} {x f : Str} {e : Expr} {pos p' p2 : Pos} (hC : Cls X.K (cl.f c)) (hn : NoAttr X.K (cl.f c) f) (h : DE cl X d W e p) (hN : X.N[i]? = some x := by rfl) (hv : Vis X.env.scope x := by first | exact Or.inl rfl | exact Or.inr (Or.inl rfl) | exact Or.inr (Or.inr rfl)) (hd : (x == ("__debug__" : Str)) = false := by decide) (hcd : (x == ("__classdict__" : Str)) = false := by decide)
    (hs : swapsWith e (some (.Attribute (.Name x p2) f p')) pos.line X.env = pure false := by rfl) : DS cl X d W (.Assign [.Attribute (.Name x p2) f p'] e pos) (S.fsetY c i f p) := by
  obtain ⟨t, a1, a2⟩ := h
  exact ⟨_, ps_fld (pe_var hN hv hd hcd) a1 hs, ss_fsetY hC hn a2⟩
theorem ds_appY {x : Str} {apos p' : Pos} (h : DE cl X d W e p) (hN : X.N[i]? = some x := by rfl) (hv : Vis X.env.scope x := by first | exact Or.inl rfl | exact Or.inr (Or.inl rfl) | exact Or.inr (Or.inr rfl)) (hd : (x == ("__debug__" : Str)) = false := by decide) (hcd : (x == ("__classdict__" : Str)) = false := by decide)
    (hbase : attributeBase (.Name x p') "append" X.env (eval (.Name x p') X.env) = eval (.Name x p') X.env := by rfl)
    (hfew : ((backTo p1 (starEach [e] X.env)).all (fun x => !x.1) && (backToKw p1 (keywordEach [] X.env)).all (fun x => x.1.isSome) && decide ([e].length + ([] : List Keyword).length + (if ([] : List Keyword).isEmpty then 0 else 1) < 30)) = true := by rfl)
    (hline : (apos.endLine == p1.line) = true := by rfl) (hs : starEach [e] X.env = (false, eval e X.env) :: starEach [] X.env := by rfl) (hplain : (backTo p1 (starEach [] X.env)).any (·.1) = false := by rfl)
    (hsw : swapsWith (.Call (.Attribute (.Name x p') "append" apos) [e] [] p1) none pos.line X.env = pure false := by rfl) : DS cl X d W (.Expr (.Call (.Attribute (.Name x p') "append" apos) [e] [] p1) pos) (S.appY i p) := by
  obtain ⟨t, a1, a2⟩ := h
  exact ⟨_, ps_expr (pe_bm PySem.F.plainAttrs_list PySem.F.slot_list_append PySem.F.type_list_append mt_append (pe_var hN hv hd hcd) (pa_cons a1 pa_nil hs) hbase hfew hline hs hplain) hsw, ss_appY a2⟩
theorem ds_setY {x : Str} {p' : Pos} {x1} (h : DE cl X d W e p) (hk : DE cl X d W e2 q) (hN : X.N[i]? = some x := by rfl) (hv : Vis X.env.scope x := by first | exact Or.inl rfl | exact Or.inr (Or.inl rfl) | exact Or.inr (Or.inr rfl)) (hd : (x == ("__debug__" : Str)) = false := by decide) (hcd : (x == ("__classdict__" : Str)) = false := by decide)
    (hs : swapsWithSole [.Subscript (.Name x p') e2 x1] e pos.line X.env = pure false := by rfl) (hw : swappedStores [.Subscript (.Name x p') e2 x1] e X.env = pure none := by rfl)
    (ha : ∀ v, assign (.Subscript (.Name x p') e2 x1) X.env v = (do
      let ov ← holding [v] (eval (.Name x p') X.env)
      let iv ← holding [v, ov] (eval e2 X.env)
      standAt x1
      holding [v, ov, iv] (setItem ov iv v)
      release [v, ov, iv] []) := by intro _; rfl) : DS cl X d W (.Assign [.Subscript (.Name x p') e2 x1] e pos) (S.setY i q p) := by
  obtain ⟨t, a1, a2⟩ := h
  obtain ⟨t2, b1, b2⟩ := hk
  exact ⟨_, ps_asg a1 (pg_sub (pe_var hN hv hd hcd) b1 set_list ha) hs hw, ss_setY a2 b2⟩
/-! ### a field of an instance of one of several classes -/
def FldOk (K : PySem.W.Frag) (cl : Cl) (f : Str) (cs : List Nat) : Prop := ∀ c ∈ cs, Cls K (cl.f c) ∧ NoAttr K (cl.f c) f
theorem FldOk.nil {K : PySem.W.Frag} {cl : Cl} {f : Str} : FldOk K cl f [] := fun _ h => by cases h
theorem FldOk.cons {K : PySem.W.Frag} {cl : Cl} {f : Str} {c : Nat} {cs : List Nat} (h1 : Cls K (cl.f c)) (h2 : NoAttr K (cl.f c) f) (h : FldOk K cl f cs) : FldOk K cl f (c :: cs) := fun c' hc => by
  rcases List.mem_cons.mp hc with z | z
  · rw [z]; exact ⟨h1, h2⟩
  · exact h c' z
def T.fld (cs : List Nat) (f : Str) : T → Option T
  | .ins _ c ns ts => if cs.contains c then (ns.zip ts).lookup f else none
  | _ => none
theorem de_attr {f : Str} {cs : List Nat} (h0 : FldOk X.K cl f cs) (h : DE cl X d W e p) (hb : attributeBase e f X.env (eval e X.env) = eval e X.env := by rfl) : DE cl X d W (.Attribute e f pos) (P.un (T.fld cs f) p) := by
  obtain ⟨te, a1, a2⟩ := h
  refine ⟨_, pe_fld a1 hb, fun A env σ F H Q R e o => a2 A env σ F H _ R e (Outg.bind o fun y w F1 H1 g1 rx o1 => ?_)⟩
  cases y with
  | ins g c' ns ts =>
    have o2 : Out _ A F1 H1 Q (WE W σ) (.of (if cs.contains c' then (ns.zip ts).lookup f else none)) := o1
    cases hc : cs.contains c' with
    | false => rw [hc] at o2; exact o2.elim
    | true =>
      rw [hc, if_pos rfl] at o2
      obtain ⟨C, hno⟩ := h0 c' (List.contains_iff_mem.mp hc)
      cases q : (ns.zip ts).lookup f with
      | none => rw [q] at o2; exact o2.elim
      | some t =>
        rw [q] at o2
        obtain ⟨a, dx, vs, rfl, e1, e2, e3, e4⟩ := rx
        obtain ⟨v, hv, rv⟩ := zip_lookup e4 q
        exact ⟨a, _, dx, _, v, rfl, g1.sub _ _ e1, C, hno, hv, Out.here o2 g1.sub rv⟩
  | _ => exact o1.elim
end
end Py

set_option Elab.async false
set_option linter.all false
set_option maxRecDepth 100000
set_option maxHeartbeats 4000000
namespace Py
open PySem L2 PySem.Spec PyProof.Rows Evl

/-! ### x in a list whose items are data of any depth -/
def T.inL (neg : Bool) (x y : T) : Option T := match T.pd x, T.pd y with
  | some d, some (.list ds) => if SeqAt.shaped d && SeqAt.shaped (.list ds) then some (.bl (if neg then !ds.any (fun z => PyData.eqv z d) else ds.any fun z => PyData.eqv z d)) else none
  | _, _ => none
def T.isInD (neg : Bool) (x y : T) : Option T := (T.isIn neg x y).or (T.inL neg x y)
section
variable {cl : Cl} {X : Cx}
theorem opS_inL {G : Ge} : OpS G (rInD G.K) (T.inL false) := fun A F H Q E x y v w ok e rx ry o => by
  unfold T.inL at o
  split at o
  · rename_i d ds q1 q2
    split at o
    · rename_i c
      exact ⟨d, ds, dp_mono e (dp_of rx q1), dp_mono e (dp_of ry q2), (band c).1, (band c).2, Out.here o e rfl⟩
    · exact o.elim
  · exact o.elim
theorem opS_notInL {G : Ge} : OpS G (rNotInD G.K) (T.inL true) := fun A F H Q E x y v w ok e rx ry o => by
  unfold T.inL at o
  split at o
  · rename_i d ds q1 q2
    split at o
    · rename_i c
      exact ⟨d, ds, dp_mono e (dp_of rx q1), dp_mono e (dp_of ry q2), (band c).1, (band c).2, Out.here o e rfl⟩
    · exact o.elim
  · exact o.elim
theorem Room.u65 {k : Nat} {A : Around} (h : Room k A) : A.units + 65 < cLine := by
  have := h.un
  omega
theorem opD_inD (hu : X.A.units + 65 < cLine) : OpD X cl (compareOp .In) (T.isInD false) := opD_in.or ⟨_, op_inD hu, opS_inL⟩ fun _ _ => rfl
theorem opD_notInD (hu : X.A.units + 65 < cLine) : OpD X cl (compareOp .NotIn) (T.isInD true) := opD_notIn.or ⟨_, op_notInD hu, opS_notInL⟩ fun _ _ => rfl
end
/-! ### a test that may raise something that is not flat -/
namespace S
def iteY (t : P.Bx) (s u : Sx) : Sx := fun env => (t env).thenY env fun b => if b = true then s env else u env
end S
section
variable {G : Ge} {d : Nat} {W : WX} {A0 A : Al} {F0 H0 F H : Hp} {env : Fv} {σ : L2.St} {D : Ends} {tt : TT} {b : P.Bx} {t u : TS} {s s' : Sx}
theorem Rel.runTY (R : Rel G d A0 F0 H0 A env σ F H) (ht : ST G d W tt b) {k : Bool → RS} {Q : Bool → Hp → Prop} (o : OutS G d A0 F0 H0 W D ((b env).thenY env k))
    (h : ∀ r F1 H1, Rel G d A0 F0 H0 A env σ F1 H1 → OutS G d A0 F0 H0 W D (k r) → Q r H1) : tt σ H Q :=
  ht A env σ _ H Q R.re R.subP (R.outY o fun r v F1 H1 g R1 r1 o1 => by
    subst r1
    exact h _ _ H1 R1 o1)
theorem ss_ifY (ht : ST G d W tt b) (h1 : SS G d W t s) (h2 : SS G d W u s') : SS G d W (tIfS tt t u) (S.iteY b s s') := fun A0 F0 H0 A env σ F H D R o =>
  R.runTY ht o fun r F1 H1 R1 o1 => by
    cases r with
    | true =>
      show t D σ H1
      exact h1 A0 F0 H0 A env σ F1 H1 D R1 o1
    | false =>
      show u D σ H1
      exact h2 A0 F0 H0 A env σ F1 H1 D R1 o1
end
theorem ds_ifY {cl : Cl} {X : Cx} {d : Nat} {W : WX} {e : Expr} {sts sts' : List Stmt} {pos : Pos} {b : P.Bx} {s s' : Sx} (ht : DT cl X d W e b) (h1 : DB cl X d W sts s) (h2 : DB cl X d W sts' s') : DS cl X d W (.If e sts sts' pos) (S.iteY b s s') := by
  obtain ⟨t, a1, a2⟩ := ht
  obtain ⟨t1, b1, b2⟩ := h1
  obtain ⟨t2, c1, c2⟩ := h2
  exact ⟨_, ps_if a1 b1 c1, ss_ifY a2 b2 c2⟩
end Py

set_option Elab.async false
set_option linter.all false
set_option maxRecDepth 100000
set_option maxHeartbeats 4000000
namespace Py
open PySem L2 PySem.Spec PyProof.Rows Evl

/-! ### isinstance, own classes among those asked -/
abbrev TyK := Sum String Nat
def tyVal (cl : Cl) : TyK → Value
  | .inl n => .type n
  | .inr c => .ref (cl.f c)
def lookK (tab : List (TyK × Bool)) (n : TyK) : Option Bool := (tab.find? fun p => decide (p.1 = n)).map (·.2)
def T.tyk : T → Option TyK
  | .non => some (.inl "NoneType")
  | .bl _ => some (.inl "bool")
  | .int _ => some (.inl "int")
  | .str _ => some (.inl "str")
  | .lst _ _ => some (.inl "list")
  | .tup _ => some (.inl "tuple")
  | .ins _ c _ _ => some (.inr c)
  | _ => none
def T.isk (tab : TyK → Option Bool) (t : T) : Option T := match t.tyk with
  | some n => (tab n).map .bl
  | none => none
/-- what isinstance asks of a plain class -/
structure InsA (K : PySem.W.Frag) (C : Addr) : Prop where
  cl : Cls K C
  ha : PySem.W.findIn K (.ref C) "__class__" = some (some (.builtin "object.__class__"))
  hn : PySem.W.specialIn K (.builtin "object.__class__") "__get__" = some (some (.builtin "getset_descriptor.__get__"))
  tk : PySem.W.takesIn K (.builtin "object.__class__") = some true
  mr : PySem.W.mroIn K C (.type "object") = some true
def InsAll (K : PySem.W.Frag) (cl : Cl) (tab : TyK → Option Bool) : Prop := ∀ c b, tab (.inr c) = some b → InsA K (cl.f c)
section
variable {cl : Cl} {X : Cx} {G : Ge} {A : Al} {F H : Hp} {d : Nat} {W : WX} {e : Expr} {p : P.Ex1} {pos p1 p2 : Pos} {tab : TyK → Option Bool} {x : Str}
theorem tyk_of {t : T} {v : V} {n : TyK} {b : Bool} (h : rep G A F t v) (e : Ex F H) (q : t.tyk = some n) (hi : InsAll G.K G.c tab) (ht : tab n = some b) : TyX G.K H v (tyVal G.c n) := by
  cases t <;> cases q
  · cases h; exact .base .non
  · cases h; exact .base (.bl _)
  · cases h; exact .base (.int _)
  · cases h; exact .base (.str _)
  · obtain ⟨a, vs, rfl, h2, _⟩ := h
    exact .base (.lst (e _ _ h2))
  · obtain ⟨a, vs, rfl, h2, _⟩ := h
    rcases h2 with (h2 | ⟨o, h2⟩) | ⟨o, its, n, h2, h3, _⟩
    · exact .base (.tup (e _ _ h2))
    · exact .fTuple (e _ _ h2)
    · exact .kTuple h2 h3
  · obtain ⟨a, dx, vs, rfl, h2, _⟩ := h
    have i := hi _ _ ht
    exact .base (.ins (e _ _ h2) i.cl i.ha i.hn i.tk i.mr)
theorem de_isk {u : Value} (hm : X.mg "isinstance" = none) (hc : NC X x u) (hi : InsAll X.K cl tab) (htk : ∀ n b, tab n = some b → PySem.W.kitOne X.K (tyVal cl n) u = some b) (h : DE cl X d W e p) (hd : (x == ("__debug__" : Str)) = false := by decide) (hg : Gl X "isinstance" := by rfl) (hg2 : Gl X x := by rfl)
    (he : starEach [e, .Name x p2] X.env = (false, eval e X.env) :: starEach [.Name x p2] X.env := by rfl) (he2 : starEach [.Name x p2] X.env = (false, eval (.Name x p2) X.env) :: starEach [] X.env := by rfl) (hpl : (backTo pos (starEach [.Name x p2] X.env)).any (·.1) = false := by rfl) :
    DE cl X d W (.Call (.Name "isinstance" p1) [e, .Name x p2] [] pos) (P.un (T.isk tab) p) := by
  obtain ⟨te, a1, a2⟩ := h
  obtain ⟨v, hv, hp⟩ := hc.pe (pos := p2) hg2 hd
  refine ⟨_, pe_callB call_isi hg hm (by decide +kernel) (pa_cons a1 (pa_cons hp pa_nil he2) he) (by decide) (by decide) he hpl, fun A env σ F H Q R e o => a2 A env σ F H _ R e (Outg.bind o fun y w F1 H1 g1 rx o1 => ?_)⟩
  unfold T.isk at o1
  cases q : y.tyk with
  | none => rw [q] at o1; exact o1.elim
  | some n =>
    rw [q] at o1
    cases q2 : tab n with
    | none => simp only [q2] at o1; exact o1.elim
    | some b =>
      simp only [q2] at o1
      exact ⟨w, v, tyVal cl n, u, b, rfl, hv, tyk_of rx g1.sub q hi q2, htk n b q2, Out.here o1 g1.sub rfl⟩
theorem de_iskT {cs : List Expr} {us : List Value} {x1 : Nat} (hm : X.mg "isinstance" = none) (hc : NCs X cs us) (hi : InsAll X.K cl tab) (htk : ∀ n b, tab n = some b → PySem.W.kitAny X.K (tyVal cl n) us = some b) (h : DE cl X d W e p) (hlen : cs.length ≤ 1000 := by decide) (hg : Gl X "isinstance" := by rfl)
    (he : starEach [e, .Tuple cs x1 p2] X.env = (false, eval e X.env) :: starEach [.Tuple cs x1 p2] X.env := by rfl) (he2 : starEach [.Tuple cs x1 p2] X.env = (false, eval (.Tuple cs x1 p2) X.env) :: starEach [] X.env := by rfl) (hpl : (backTo pos (starEach [.Tuple cs x1 p2] X.env)).any (·.1) = false := by rfl) :
    DE cl X d W (.Call (.Name "isinstance" p1) [e, .Tuple cs x1 p2] [] pos) (P.un (T.isk tab) p) := by
  obtain ⟨te, a1, a2⟩ := h
  obtain ⟨vs, hv, hl, hp⟩ := hc
  refine ⟨_, pe_callB call_isiT hg hm (by decide +kernel) (pa_cons a1 (pa_cons (pe_tup hp) pa_nil he2) he) (by decide) (by decide) he hpl, fun A env σ F H Q R e o => a2 A env σ F H _ R e (Outg.bind o fun y w F1 H1 g1 rx o1 => ?_)⟩
  unfold T.isk at o1
  cases q : y.tyk with
  | none => rw [q] at o1; exact o1.elim
  | some n =>
    rw [q] at o1
    cases q2 : tab n with
    | none => simp only [q2] at o1; exact o1.elim
    | some b =>
      simp only [q2] at o1
      have hvl : vs.length ≤ sizeLine := by
        have e1 : vs.length = us.length := Paired.length hv
        rw [e1, hl]
        exact Nat.le_trans hlen (by decide)
      refine ⟨hvl, fun tp htp => ⟨w, tp, vs, tyVal cl n, us, b, rfl, upd_same, hv, ?_, htk n b q2, ?_⟩⟩
      · exact tyk_of (H := upd H1 tp (.tup vs)) rx (g1.sub.trans (Ex.new htp)) q hi q2
      · exact o1 _ F1 _ (Grow.junk g1.sub htp) rfl
end
/-! ### x == y by an own method -/
/-- a method of a class, as its callers use it; no errors -/
structure Mok (cl : Cl) (P : Program) (w : World) (K : PySem.W.Frag) (mg : Str → Option Value) (base : Heap) (m : Str) (c k n : Nat) (f : Nat → List T → Res T) : Prop where
  ex : ∃ fa fd ps, Meth K (cl.f c) m fa ∧ FnOk P w K mg base (L2.CX P w) k fa fd ps (spT ⟨K, cl⟩ n f) ∧ Binds K fd ps []
/-- two instances of the class c compared by its method f -/
def T.cmpM (c : Nat) (f : List T → Res T) (x y : T) : Option T := match x, y with
  | .ins _ c1 _ _, .ins _ c2 _ _ => if c1 = c ∧ c2 = c ∧ x.fr = true ∧ y.fr = true then (match f [x, y] with
    | .ok (.bl b) => some (.bl b)
    | _ => none) else none
  | _, _ => none
section
variable {G : Ge} {A : Al} {F : Hp}
mutual
theorem rep.noA : ∀ {t : T} {v : V}, t.fr = true → rep G A F t v → rep G (fun _ => none) F t v
  | .non, _, _, h => h
  | .bl _, _, _, h => h
  | .int _, _, _, h => h
  | .str _, _, _, h => h
  | .lst gg ts, _, f, ⟨a, vs, e1, e2, e3, e4⟩ => by
    obtain ⟨f1, f2⟩ := band (show (gg.isNone && T.frs ts) = true from f)
    cases gg with
    | some _ => cases f1
    | none => exact ⟨a, vs, e1, e2, (fun _ z => nomatch z), reps.noA f2 e4⟩
  | .tup _, _, f, ⟨a, vs, e1, e2, e4⟩ => ⟨a, vs, e1, e2, reps.noA f e4⟩
  | .ro _, _, f, _ => by cases f
  | .ins gg c ns ts, _, f, ⟨a, dx, vs, e1, e2, e3, e5, e4⟩ => by
    obtain ⟨f1, f2⟩ := band (show (gg.isNone && T.frs ts) = true from f)
    cases gg with
    | some _ => cases f1
    | none => exact ⟨a, dx, vs, e1, e2, e3, (fun _ z => nomatch z), reps.noA f2 e4⟩
  | .exn _ _ _, _, f, _ => by cases f
theorem reps.noA : ∀ {ts : List T} {vs : List V}, T.frs ts = true → reps G A F ts vs → reps G (fun _ => none) F ts vs
  | [], _, _, h => h
  | t :: ts, _, f, ⟨v, ws, e1, e2, e3⟩ => by
    obtain ⟨f1, f2⟩ := band (show (t.fr && T.frs ts) = true from f)
    exact ⟨v, ws, e1, rep.noA f1 e2, reps.noA f2 e3⟩
end
end
def rCmpM (C : Addr) (sp : Sp) : R2 := fun x y H Q => ∃ a b dx dy fs gs, x = .ref a ∧ y = .ref b ∧ H a = some (.ins C dx fs) ∧ H b = some (.ins C dy gs) ∧ sp [x, y] H (fun v H3 => ∃ z, v = .bl z ∧ Q (.bl z) H3) (fun _ _ _ => False)
section
variable {cl : Cl} {X : Cx} {c k : Nat} {f : Nat → List T → Res T} {C fa : Addr} {fd : FuncData} {ps : List Str} {sp : Sp} {op : CmpOp}
theorem op_cmpM (M : PySem.W.findIn X.K (.ref C) (cmpInfo op).2.1 = some (some (.ref fa))) (hf : PySem.W.isFn X.K (.ref fa) = true) (F : FnOk X.prog X.w X.K X.mg X.base (L2.CX X.prog X.w) k fa fd ps sp) (hr : Room k X.A) (hb : Binds X.K fd ps []) (hco : ∀ a b, compareOp op a b = richCompare op a b) : OpR X (compareOp op) (rCmpM C sp) := by
  intro pins s σ H x y v u Q I rx ry h
  obtain ⟨a, b, dx, dy, fs, gs, rfl, rfl, ha, hbb, h⟩ := h
  cases (show v = Value.ref a from rx)
  cases (show u = Value.ref b from ry)
  obtain ⟨mA, J, _⟩ := ins_get I.hok ha
  obtain ⟨mB, J', _⟩ := ins_get I.hok hbb
  obtain ⟨od, J, _⟩ := J.look
  obtain ⟨od', J', _⟩ := J'.look
  obtain ⟨m, hF⟩ := I.fr
  have key : wpAny (model X.prog X.w) X.A (richCompare op (.ref a) (.ref b)) (EP X pins σ Q) X.xe s := by
    refine PySem.W.cmp_K (op := op) (tb := .ref C) hr.units0 hF I.ok.mod.kin J J'.type (by simp [PySem.W.notFirst]) M hf ?_
    have hl := F.len _ _ _ _ h
    have r2 : Vals [V.ref a, V.ref b] [Value.ref a, Value.ref b] := .cons rfl (.cons rfl .nil)
    refine wpAny_call (codeAny_mono (F.run X.A X.stack s H ⟨[.ref a, .ref b], []⟩ [.ref a, .ref b] [.ref a, .ref b] _ _ hr I.env0 (by
      have := hb s [.ref a, .ref b] I.kIn (by simpa using hl)
      simpa using this) r2 h) fun r s' hq => ?_)
    cases r with
    | error e =>
      obtain ⟨_, _, _, _, _, _, _, _, _, _, _, _, z⟩ := hq
      exact z.elim
    | ok fl =>
      cases fl with
      | ret w =>
        obtain ⟨z, H', I', rz, z', ez, ex⟩ := I.after hq
        subst ez
        cases (show w = Value.bool z' from rz)
        exact ⟨.bl z', H', I', rfl, ex⟩
      | next => exact False.elim hq
      | brk => exact False.elim hq
      | cont => exact False.elim hq
  rw [hco]
  exact key
end
theorem opD_cmpM {cl : Cl} {X : Cx} {c k : Nat} {f : Nat → List T → Res T} {op : CmpOp} {m : Str} (D : Mok cl X.prog X.w X.K X.mg X.base m c k 2 f) (hr : Room k X.A) (ho : (cmpInfo op).2.1 = m := by rfl) (hco : ∀ a b, compareOp op a b = richCompare op a b := by intro _ _; rfl) : OpD X cl (compareOp op) (T.cmpM c (f 0)) := by
  obtain ⟨fa, fd, ps, M, F, hb⟩ := D
  subst ho
  refine ⟨_, op_cmpM M.at_ M.fn F hr hb hco, fun A F H Q E x y v w ok e rx ry o => ?_⟩
  unfold T.cmpM at o
  split at o
  · rename_i g1 c1 n1 t1 g2 c2 n2 t2
    split at o
    · rename_i hc
      obtain ⟨hc1, hc2, fx, fy⟩ := hc
      subst hc1
      subst hc2
      have rx' := rep.noA fx rx
      have ry' := rep.noA fy ry
      obtain ⟨a, dx, vs, rfl, h2, h3, h4, h5⟩ := rx
      obtain ⟨b, dy, ws, rfl, k2, k3, k4, k5⟩ := ry
      refine ⟨a, b, dx, dy, _, _, rfl, rfl, e _ _ h2, e _ _ k2, rfl, 0, fun _ => none, F, [_, _], ⟨fun _ _ _ z => (nomatch z), fun _ _ z => (nomatch z)⟩, fun _ _ z => (nomatch z), e, ⟨_, _, rfl, rx', _, _, rfl, ry', rfl⟩, ?_⟩
      split at o
      · rename_i b' hf
        rw [hf]
        intro v F1 H1 gr rv
        cases (show v = V.bl b' from rv)
        exact ⟨b', rfl, o _ F1 H1 gr rfl⟩
      · exact o.elim
    · exact o.elim
  · exact o.elim
/-! ### tuple * int -/
def T.mulT : T → T → Option T
  | .tup (t :: ts), .int k => if decide (2 ≤ k) && decide (k ≤ 1000) && decide (ts.length < 1000) then some (.tup (List.replicate k.toNat (t :: ts)).flatten) else none
  | _, _ => none
def T.mulA (x y : T) : Option T := (T.mul x y).or (T.mulT x y)
section
variable {cl : Cl} {X : Cx}
theorem opD_mulT : OpD X cl (binaryOp .Mult) T.mulT := ⟨_, op_repT, fun A F H Q E x y v w ok e rx ry o => by
  unfold T.mulT at o
  split at o
  · rename_i t ts k
    split at o
    · rename_i hc
      obtain ⟨hc, c3⟩ := band hc
      obtain ⟨c1, c2⟩ := band hc
      obtain ⟨a, vs, rfl, h2, h4⟩ := rx
      cases (show w = V.int k from ry)
      have hl := h4.length
      have e3 := of_decide_eq_true c3
      rw [List.length_cons] at hl
      refine ⟨a, k, vs, rfl, rfl, ex_t e h2, (fun z => by rw [z] at hl; cases hl), of_decide_eq_true c1, of_decide_eq_true c2, by omega, Out.tup o e (h4.flat _)⟩
    · exact o.elim
  · exact o.elim⟩
theorem opD_mulA : OpD X cl (binaryOp .Mult) T.mulA := opD_mul.or opD_mulT fun _ _ => rfl
end
/-! ### a method's promise -/
theorem mok_of {cl : Cl} {P : Program} {w : World} {K : PySem.W.Frag} {mg : Str → Option Value} {base : Heap} {m qual : Str} {params : Arguments} {body : List Stmt} {scope : Scope} {fa : Addr} {fd : FuncData} {N ps : List Str} {k n c : Nat} {fT : Nat → List T → Res T} {sT : Nat → Sx}
    (M : Meth K (cl.f c) m fa) (F : FunD K m qual params body scope [] [] fa fd) (S : FnScope N ps scope) (hn : n = ps.length) (hle : ps.length ≤ N.length) (p0 : cl.pin = none) (hf : ∀ d ts, fT d ts = run N.length (sT d) ts)
    (hb : ∀ (kV doc pm : Value) (an : Option Addr) (cdv ct : Value) (us : List Value), us.length = ps.length → bindArgs (PySem.W.fnOf m qual params body scope .none kV doc pm an cdv ct) ⟨us, []⟩ = pure (ps.zip us))
    (h : ∀ (d : Nat) (cdv : Value) (A : Around) (outer : List Env) (s : Shared) (H : Hp) (E : XK), Room k (A.deeper (envOfC qual scope s.heap.objs.size fa cdv)) → DB cl (XOf P w K mg base N qual scope fa cdv A outer s H E) d (WOf E) body (sT d)) :
    Mok cl P w K mg base m c (k + 1) n fT := ⟨fa, fd, ps, M, def_ok F S hn hle p0 hf h, F.bindsN hb⟩
theorem Mok.pin {cl : Cl} {x : Option (Nat × Addr)} {P : Program} {w : World} {K : PySem.W.Frag} {mg : Str → Option Value} {base : Heap} {m : Str} {c k n : Nat} {f : Nat → List T → Res T} (D : Mok cl P w K mg base m c k n f) : Mok (cl.pinned x) P w K mg base m c k n f := by
  obtain ⟨fa, fd, ps, h1, h2, h3⟩ := D
  exact ⟨fa, fd, ps, h1, by rw [spT_pin]; exact h2, h3⟩
/-! ### the head's Bools -/
open He
def insB (x : Str) (K : PySem.W.Frag) : Bool := (Fa.cls x).ok K && (decide (PySem.W.findIn K (.ref (ga K x)) "__class__" = some (some (.builtin "object.__class__"))) && (decide (PySem.W.specialIn K (.builtin "object.__class__") "__get__" = some (some (.builtin "getset_descriptor.__get__"))) && (decide (PySem.W.takesIn K (.builtin "object.__class__") = some true) && decide (PySem.W.mroIn K (ga K x) (.type "object") = some true))))
theorem insB_ok {x : Str} {K : PySem.W.Frag} (h : insB x K = true) : InsA K (ga K x) := by
  obtain ⟨h1, h⟩ := ba h
  obtain ⟨h2, h⟩ := ba h
  obtain ⟨h3, h⟩ := ba h
  obtain ⟨h4, h5⟩ := ba h
  exact ⟨He.cls_ok h1, of_decide_eq_true h2, of_decide_eq_true h3, of_decide_eq_true h4, of_decide_eq_true h5⟩
def tyValK (ns : List Str) (K : PySem.W.Frag) : TyK → Value
  | .inl n => .type n
  | .inr c => .ref (ga K (ns.getD c ""))
def iskB (ns : List Str) (tab : List (TyK × Bool)) (v : PySem.W.Frag → Value) (K : PySem.W.Frag) : Bool := tab.all fun p => decide (PySem.W.kitOne K (tyValK ns K p.1) (v K) = some p.2)
def iskTB (ns : List Str) (tab : List (TyK × Bool)) (v : PySem.W.Frag → List Value) (K : PySem.W.Frag) : Bool := tab.all fun p => decide (PySem.W.kitAny K (tyValK ns K p.1) (v K) = some p.2)
theorem mem_lookupK {tab : List (TyK × Bool)} {n : TyK} {b : Bool} (h : lookK tab n = some b) : (n, b) ∈ tab := by
  unfold lookK at h
  obtain ⟨p, h1, h2⟩ := Option.map_eq_some_iff.mp h
  have h3 := List.find?_some h1
  have h4 : p.1 = n := of_decide_eq_true h3
  subst h4 h2
  exact List.mem_of_find?_eq_some h1
theorem tyVal_clOf (ns : List Str) (K : PySem.W.Frag) (n : TyK) : tyVal (clOf ns K) n = tyValK ns K n := by cases n <;> rfl
theorem iskB_ok {ns : List Str} {tab : List (TyK × Bool)} {v : PySem.W.Frag → Value} {K : PySem.W.Frag} (h : iskB ns tab v K = true) : ∀ n b, lookK tab n = some b → PySem.W.kitOne K (tyVal (clOf ns K) n) (v K) = some b := fun n b e => by
  rw [tyVal_clOf]
  exact of_decide_eq_true (List.all_eq_true.mp h _ (mem_lookupK e))
theorem iskTB_ok {ns : List Str} {tab : List (TyK × Bool)} {v : PySem.W.Frag → List Value} {K : PySem.W.Frag} (h : iskTB ns tab v K = true) : ∀ n b, lookK tab n = some b → PySem.W.kitAny K (tyVal (clOf ns K) n) (v K) = some b := fun n b e => by
  rw [tyVal_clOf]
  exact of_decide_eq_true (List.all_eq_true.mp h _ (mem_lookupK e))
end Py

set_option Elab.async false
set_option linter.all false
set_option maxRecDepth 100000
set_option maxHeartbeats 4000000
namespace Py
open PySem L2 PySem.Spec PyProof.Rows Evl

/-! ### slices of lists and tuples -/
def T.cutA (t : T) (lo hi : Option Int) : Option T := match t with
  | .tup ts => some (.tup ((ts.drop (HT.sIx ts.length 0 lo)).take (HT.sIx ts.length ts.length hi - HT.sIx ts.length 0 lo)))
  | _ => T.cut t lo hi
def P.cutA (p : P.Ex1) (lo hi : Option P.Ex1) : P.Ex1 := fun env => (p env).bind fun t => (P.opart lo env).bind fun l => (P.opart hi env).bind fun u => .of (t.cutA l u)
section
variable {cl : Cl} {X : Cx} {d : Nat} {W : WX} {e : Expr} {p : P.Ex1} {pos p2 : Pos} {lo hi : Option Expr} {pl ph : Option P.Ex1}
theorem de_cutA (h : DE cl X d W e p) (hl : DO cl X d W lo pl) (hh : DO cl X d W hi ph) : DE cl X d W (.Subscript e (.Slice lo hi none p2) pos) (P.cutA p pl ph) := by
  obtain ⟨t, a1, a2⟩ := h
  obtain ⟨t1, b1, b2⟩ := hl
  obtain ⟨t2, c1, c2⟩ := hh
  refine ⟨_, pe_slice (SlR.or sl_list sl_tupA) a1 b1 c1, fun A env σ F H Q R e o => a2 A env σ F H _ R e (Outg.bind o fun x v F1 H1 g1 rx o1 =>
    b2 A env σ F1 H1 _ (R.mono g1.ex) g1.sub (Outg.bind o1 fun l l' F2 H2 g2 el o2 => ?_))⟩
  subst el
  refine c2 A env σ F2 H2 _ ((R.mono g1.ex).mono g2.ex) g2.sub (Outg.bind o2 fun u u' F3 H3 g3 eu o3 => ?_)
  subst eu
  have R3 := ((R.mono g1.ex).mono g2.ex).mono g3.ex
  have rx3 := (rx.mono g2.ex).mono g3.ex
  cases x <;> (try exact o3.elim)
  · obtain ⟨aa, vs, rfl, h1, h2, h3⟩ := rx3
    refine .inl ⟨aa, vs, rfl, SqL.of (g3.sub _ _ h1), ?_⟩
    refine Out.lst o3 R3.ok g3.sub ?_
    unfold cutV
    rw [h3.length]
    exact (h3.drop _).take _
  · rename_i ts
    obtain ⟨aa, vs, rfl, h1, h3⟩ := rx3
    have hl3 := h3.length
    refine .inr ⟨aa, vs, rfl, ex_t g3.sub h1, fun hw => ?_, fun hw p hp => ?_⟩
    · rw [hl3] at hw
      obtain ⟨w1, w2⟩ := hw
      have o4 : Out _ A F3 H3 Q (WE W σ) (.ok (.tup ((ts.drop (HT.sIx ts.length 0 l')).take (HT.sIx ts.length ts.length u' - HT.sIx ts.length 0 l')))) := o3
      rw [w1, w2, List.drop_zero, Nat.sub_zero, List.take_length] at o4
      exact Out.here o4 g3.sub ⟨aa, vs, rfl, h1, h3⟩
    · refine Out.tup o3 g3.sub ?_ p hp
      unfold cutV
      rw [hl3]
      exact (h3.drop _).take _
  · obtain ⟨aa, vs, rfl, h1, h3⟩ := rx3
    refine .inl ⟨aa, vs, rfl, ex_l g3.sub h1, ?_⟩
    refine Out.lst o3 R3.ok g3.sub ?_
    unfold cutV
    rw [h3.length]
    exact (h3.drop _).take _
end
/-! ### tuples added, the empty one among them -/
def T.addT0 : T → T → Option T
  | .tup [], .tup ys => if lfit ys.length = true then some (.tup ys) else none
  | _, _ => none
def T.addA (x y : T) : Option T := (T.add x y).or (T.addT0 x y)
theorem opD_addT0 {cl : Cl} {X : Cx} : OpD X cl (binaryOp .Add) T.addT0 := ⟨_, op_catA, fun A F H Q E x y v w ok e rx ry o => by
  unfold T.addT0 at o
  split at o
  · rename_i ys
    split at o
    · rename_i hc
      obtain ⟨a, vs, rfl, h1, h3⟩ := rx
      obtain ⟨b, ws, rfl, k1, k3⟩ := ry
      have e1 : vs = [] := h3
      subst e1
      refine ⟨a, b, [], ws, rfl, rfl, ex_t e h1, ex_t e k1, ?_, fun _ => Out.here o e ⟨b, ws, rfl, k1, k3⟩, fun z => absurd rfl z, fun z => absurd rfl z⟩
      rw [k3.length, List.length_nil, Nat.zero_add]
      exact of_decide_eq_true hc
    · exact o.elim
  · exact o.elim⟩
theorem opD_addA {cl : Cl} {X : Cx} : OpD X cl (binaryOp .Add) T.addA := opD_add.or opD_addT0 fun _ _ => rfl
end Py

set_option Elab.async false
set_option linter.all false
set_option maxRecDepth 100000
set_option maxHeartbeats 4000000
namespace Py
open PySem

/-! ### evaluation: what the combinators are on told frames -/
def RS.k (r : RS) (u : Sx) : RS := match r with
  | .nx env => u env
  | r => r
def flatAll (ts : List T) : Bool := ts.all flat
section
variable {α β : Type} {d i j : Nat} {env : Fv} {t : T} {ts : List T} {o : Option Sl} {p q : P.Ex1} {b c : P.Bx} {a : P.Ax} {s u : Sx} {f g : T → T → Option T}
@[simp] theorem k_nx : RS.k (.nx env) u = u env := nrfl rfl
@[simp] theorem k_rt : RS.k (.rt t) u = .rt t := nrfl rfl
@[simp] theorem k_br : RS.k (.br env) u = .br env := nrfl rfl
@[simp] theorem k_ct : RS.k (.ct env) u = .ct env := nrfl rfl
@[simp] theorem k_er {e : Exn} : RS.k (.er e env) u = .er e env := nrfl rfl
@[simp] theorem k_stuck : RS.k .stuck u = .stuck := nrfl rfl
@[simp] theorem k_ite {z : Prop} [Decidable z] {x y : RS} : RS.k (if z then x else y) u = if z then RS.k x u else RS.k y u := by split <;> rfl
@[simp] theorem ev_seq : S.seq s u env = RS.k (s env) u := nrfl rfl
@[simp] theorem ev_skip : S.skip env = .nx env := nrfl rfl
@[simp] theorem fin_nx : fin (.nx env) = .ok .non := nrfl rfl
@[simp] theorem fin_rt : fin (.rt t) = .ok t := nrfl rfl
@[simp] theorem fin_er {e : Exn} : fin (.er e env) = .er e := nrfl rfl
@[simp] theorem fin_stuck : fin .stuck = .stuck := nrfl rfl
@[simp] theorem fin_ite {z : Prop} [Decidable z] {x y : RS} : fin (if z then x else y) = if z then fin x else fin y := by split <;> rfl
@[simp] theorem hide_nil : hide [] = [] := nrfl rfl
@[simp] theorem hide_cons : hide (o :: env) = Sl.hide o :: hide env := nrfl rfl
@[simp] theorem slh_none : Sl.hide none = none := nrfl rfl
@[simp] theorem slh_fz : Sl.hide (some (.fz t)) = some (.fz t) := nrfl rfl
@[simp] theorem slh_ol : Sl.hide (some (.ol ts)) = none := nrfl rfl
@[simp] theorem slh_oi {cc : Nat} {ns : List Str} : Sl.hide (some (.oi cc ns ts)) = none := nrfl rfl
def slT (d i : Nat) : Option (Option Sl) → Option T
  | some (some (.fz t)) => some t
  | some (some (.ol ts)) => some (.lst (some (d, i)) ts)
  | some (some (.oi c ns ts)) => some (.ins (some (d, i)) c ns ts)
  | _ => none
@[simp] theorem ev_rd : rd d i env = slT d i env[i]? := nrfl rfl
@[simp] theorem slT_fz : slT d i (some (some (.fz t))) = some t := nrfl rfl
@[simp] theorem slT_ol : slT d i (some (some (.ol ts))) = some (.lst (some (d, i)) ts) := nrfl rfl
@[simp] theorem slT_oi {cc : Nat} {ns : List Str} : slT d i (some (some (.oi cc ns ts))) = some (.ins (some (d, i)) cc ns ts) := nrfl rfl
@[simp] theorem ev_asg : S.asg i p env = (p (hide env)).then_ env fun t => if i < env.length then .nx (env.set i (some (.fz t))) else .stuck := nrfl rfl
@[simp] theorem ev_asgX : S.asgX i p env = (p env).thenX env fun t => if flat t = true ∧ i < env.length then .nx (env.set i (some (.fz t))) else .stuck := nrfl rfl
@[simp] theorem ev_new {pn : Fv → Res (List T)} : S.new i pn env = (pn (hide env)).then_ env fun ts => if i < env.length then .nx (env.set i (some (.ol ts))) else .stuck := nrfl rfl
@[simp] theorem ev_ret : S.ret p env = (p (hide env)).then_ env fun t => .rt t := nrfl rfl
@[simp] theorem ev_retX : S.retX p env = (p env).thenX env fun t => if flat t = true then .rt t else .stuck := nrfl rfl
@[simp] theorem ev_retN : S.retN env = .rt .non := nrfl rfl
@[simp] theorem ev_brk : S.brk env = .br env := nrfl rfl
@[simp] theorem ev_cnt : S.cnt env = .ct env := nrfl rfl
@[simp] theorem ev_expr : S.expr p env = (p env).thenX env fun _ => .nx env := nrfl rfl
@[simp] theorem ev_ite : S.ite b s u env = (b env).thenX env fun c => if c = true then s env else u env := nrfl rfl
@[simp] theorem ev_for {tg : T → Fv → Option Fv} {pi : Fv → Res (List T)} : S.for_ tg pi s env = (pi (hide env)).then_ env fun ts => S.turns tg s ts env := nrfl rfl
@[simp] theorem ev_forX {tg : T → Fv → Option Fv} {pi : Fv → Res (List T)} : S.forX tg pi s env = (pi env).thenX env fun ts => if flatAll ts = true then S.turns tg s ts env else .stuck := nrfl rfl
@[simp] theorem ev_unp {tg : T → Fv → Option Fv} : S.unp tg p env = (p (hide env)).then_ env fun t => (match tg t env with
  | some env => .nx env
  | none => .stuck) := nrfl rfl
def appK (i : Nat) (m : Res T) (env : Fv) : Option (Option Sl) → RS
  | some (some (.ol ts)) => m.then_ env fun t => if ts.length < sizeLine then .nx (env.set i (some (.ol (ts ++ [t])))) else .stuck
  | _ => .stuck
def appXK (i : Nat) (m : Res T) (env : Fv) : Option (Option Sl) → RS
  | some (some (.ol ts)) => m.thenX env fun t => if flat t = true ∧ ts.length < sizeLine then .nx (env.set i (some (.ol (ts ++ [t])))) else .stuck
  | _ => .stuck
def frzK (i : Nat) (s : Sx) (env : Fv) : Option (Option Sl) → RS
  | some (some (.ol ts)) => s (env.set i (some (.fz (.lst none ts))))
  | some (some (.oi c ns ts)) => s (env.set i (some (.fz (.ins none c ns ts))))
  | _ => s env
@[simp] theorem ev_app : S.app i p env = appK i (p (hide env)) env env[i]? := by
  unfold S.app appK
  rfl
@[simp] theorem ev_appX : S.appX i p env = appXK i (p env) env env[i]? := by
  unfold S.appX appXK
  rfl
@[simp] theorem ev_frz : S.frz i s env = frzK i s env env[i]? := by
  unfold S.frz frzK
  rfl
@[simp] theorem appK_ol {m : Res T} : appK i m env (some (some (.ol ts))) = m.then_ env fun t => if ts.length < sizeLine then .nx (env.set i (some (.ol (ts ++ [t])))) else .stuck := nrfl rfl
@[simp] theorem appXK_ol {m : Res T} : appXK i m env (some (some (.ol ts))) = m.thenX env fun t => if flat t = true ∧ ts.length < sizeLine then .nx (env.set i (some (.ol (ts ++ [t])))) else .stuck := nrfl rfl
@[simp] theorem frzK_ol : frzK i s env (some (some (.ol ts))) = s (env.set i (some (.fz (.lst none ts)))) := nrfl rfl
@[simp] theorem frzK_fz : frzK i s env (some (some (.fz t))) = s env := nrfl rfl
@[simp] theorem frzK_none : frzK i s env (some none) = s env := nrfl rfl
@[simp] theorem flat_int {z : Int} : flat (.int z) = true := nrfl rfl
@[simp] theorem flat_bl {z : Bool} : flat (.bl z) = true := nrfl rfl
@[simp] theorem flat_str {z : Str} : flat (.str z) = true := nrfl rfl
@[simp] theorem flat_non : flat .non = true := nrfl rfl
@[simp] theorem ev_tName : S.tName i t env = if i < env.length then some (env.set i (some (.fz t))) else none := nrfl rfl
@[simp] theorem ev_tTup {gs : List (T → Fv → Option Fv)} : S.tTup gs (.tup ts) env = S.tNames gs ts env := nrfl rfl
@[simp] theorem ev_tNames0 : S.tNames [] [] env = some env := nrfl rfl
@[simp] theorem ev_tNames {g : T → Fv → Option Fv} {gs : List (T → Fv → Option Fv)} : S.tNames (g :: gs) (t :: ts) env = (g t env).bind fun env => S.tNames gs ts env := nrfl rfl
@[simp] theorem ev_var : P.var d i env = Res.of (rd d i env) := nrfl rfl
@[simp] theorem ev_c : P.c t env = .ok t := nrfl rfl
@[simp] theorem ev_bin : P.bin f p q env = (p env).bind fun x => (q env).bind fun y => .of (f x y) := nrfl rfl
@[simp] theorem ev_un {h : T → Option T} : P.un h p env = (p env).bind fun x => .of (h x) := nrfl rfl
@[simp] theorem ev_tb : P.tb p env = (p env).bind fun x => .of x.boo := nrfl rfl
@[simp] theorem ev_tr : P.tr p env = (p env).bind fun x => .of x.tru := nrfl rfl
@[simp] theorem ev_and : P.and b c env = (b env).bind fun b => if b = true then c env else .ok false := nrfl rfl
@[simp] theorem ev_or : P.or b c env = (b env).bind fun b => if b = true then .ok true else c env := nrfl rfl
@[simp] theorem ev_not : P.not b env = (b env).bind fun b => .ok (!b) := nrfl rfl
@[simp] theorem ev_andV : P.andV p q env = (p env).bind fun x => (Res.of x.boo).bind fun b => if b = true then q env else .ok (.bl false) := nrfl rfl
@[simp] theorem ev_orV : P.orV p q env = (p env).bind fun x => (Res.of x.boo).bind fun b => if b = true then .ok (.bl true) else q env := nrfl rfl
@[simp] theorem ev_notV : P.notV p env = (p env).bind fun x => (Res.of x.boo).bind fun b => .ok (.bl (!b)) := nrfl rfl
@[simp] theorem ev_iteE : P.ite b p q env = (b env).bind fun b => if b = true then p env else q env := nrfl rfl
@[simp] theorem ev_chain {r : P.Ex1} : P.chain f g p q r env = (p env).bind fun x => (q env).bind fun y => (Res.of (f x y)).bind fun z => (Res.of z.boo).bind fun b => if b = true then (r env).bind fun u => .of (g y u) else .ok (.bl false) := nrfl rfl
@[simp] theorem ev_nil : P.nil env = .ok [] := nrfl rfl
@[simp] theorem ev_cons : P.cons p a env = (p env).bind fun x => (a env).bind fun xs => .ok (x :: xs) := nrfl rfl
@[simp] theorem ev_tup : P.tup a env = (a env).bind fun xs => if lfit xs.length = true then .ok (.tup xs) else .stuck := nrfl rfl
@[simp] theorem ev_lst : P.lst a env = (a env).bind fun xs => if lfit xs.length = true then .ok (.lst none xs) else .stuck := nrfl rfl
@[simp] theorem ev_lfits : lfits a env = (a env).bind fun xs => if lfit xs.length = true then .ok xs else .stuck := nrfl rfl
@[simp] theorem ev_call {h : List T → Res T} : P.call h a env = (a env).bind h := nrfl rfl
@[simp] theorem ev_items : P.items p env = (p env).bind fun t => .of t.items := nrfl rfl
@[simp] theorem ev_binN {h : T → T → Option (List T)} : P.binN h p q env = (p env).bind fun x => (q env).bind fun y => .of (h x y) := nrfl rfl
@[simp] theorem ev_lc {own : List Nat} {tg : T → Fv → Option Fv} {pi : Fv → Res (List T)} : P.lc own tg pi b p env = (P.comp own tg pi b p env).bind fun ys => .ok (.lst none ys) := nrfl rfl
@[simp] theorem ev_comp {own : List Nat} {tg : T → Fv → Option Fv} {pi : Fv → Res (List T)} : P.comp own tg pi b p env = (pi env).bind fun xs => if lfit xs.length = true then P.turnsC tg b p (wipeE env own) xs else .stuck := nrfl rfl
@[simp] theorem ev_wipe0 : wipeE env [] = env := nrfl rfl
@[simp] theorem ev_wipe {v : Nat} {vs : List Nat} : wipeE env (v :: vs) = (wipeE env vs).set v none := nrfl rfl
def rng1K : List T → Res (List T)
  | [.int n] => if rfit n = true then .ok (rng 0 n.toNat) else .stuck
  | _ => .stuck
def rng2K : List T → Res (List T)
  | [.int m, .int n] => if (rfit m && rfit n) = true then .ok (rng m (n - m).toNat) else .stuck
  | _ => .stuck
@[simp] theorem ev_rng1 : P.rng1 a env = (a env).bind rng1K := nrfl rfl
@[simp] theorem ev_rng2 : P.rng2 a env = (a env).bind rng2K := nrfl rfl
@[simp] theorem rng1K_int {n : Int} : rng1K [.int n] = if rfit n = true then .ok (rng 0 n.toNat) else .stuck := nrfl rfl
@[simp] theorem rng2K_int {m n : Int} : rng2K [.int m, .int n] = if (rfit m && rfit n) = true then .ok (rng m (n - m).toNat) else .stuck := nrfl rfl
@[simp] theorem flatAll_rng {lo : Int} {n : Nat} : flatAll (rng lo n) = true := List.all_eq_true.mpr fun x hx => by
  obtain ⟨k, _, rfl⟩ := List.mem_map.mp hx
  rfl
@[simp] theorem flatAll_ints {l : List Int} : flatAll (l.map T.int) = true := List.all_eq_true.mpr fun x hx => by
  obtain ⟨k, _, rfl⟩ := List.mem_map.mp hx
  rfl
@[simp] theorem ev_yes : P.yes env = .ok true := nrfl rfl
@[simp] theorem of_none : (Res.of (none : Option α)) = .stuck := nrfl rfl
@[simp] theorem of_ite {z : Prop} [Decidable z] {x y : Option α} : Res.of (if z then x else y) = if z then Res.of x else Res.of y := by split <;> rfl
@[simp] theorem bind_ite {z : Prop} [Decidable z] {x y : Res α} {h : α → Res β} : Res.bind (if z then x else y) h = if z then Res.bind x h else Res.bind y h := by split <;> rfl
@[simp] theorem then_ite {z : Prop} [Decidable z] {x y : Res α} {h : α → RS} : Res.then_ (if z then x else y) env h = if z then Res.then_ x env h else Res.then_ y env h := by split <;> rfl
@[simp] theorem thenX_ite {z : Prop} [Decidable z] {x y : Res α} {h : α → RS} : Res.thenX (if z then x else y) env h = if z then Res.thenX x env h else Res.thenX y env h := by split <;> rfl
end
/-! ### loops -/
theorem turns_pre {β : Type} {tg : T → Fv → Option Fv} {body : Sx} {g : β → T} {R : List β → Fv → Prop} : ∀ (xs : List β) (pre : List β) (env : Fv),
    (∀ p x post e, pre ++ xs = p ++ x :: post → R p e → ∃ e1 e2, tg (g x) e = some e1 ∧ (body e1 = .nx e2 ∨ body e1 = .ct e2) ∧ R (p ++ [x]) e2) → R pre env → ∃ e, S.turns tg body (xs.map g) env = .nx e ∧ R (pre ++ xs) e
  | [], pre, env, _, r => ⟨env, rfl, by rw [List.append_nil]; exact r⟩
  | x :: xs, pre, env, h, r => by
    obtain ⟨e1, e2, h1, h2, h3⟩ := h pre x xs env rfl r
    obtain ⟨e, h4, h5⟩ := turns_pre xs (pre ++ [x]) e2 (fun p y post e q => h p y post e (by rw [← q, List.append_assoc]; rfl)) h3
    refine ⟨e, ?_, by rw [List.append_assoc] at h5; exact h5⟩
    rw [List.map_cons]
    show (match tg (g x) env with
      | some env1 => (match body env1 with
        | .nx env => S.turns tg body (xs.map g) env
        | .ct env => S.turns tg body (xs.map g) env
        | .br env => .nx env
        | r => r)
      | none => .stuck) = _
    rw [h1]
    rcases h2 with h2 | h2
    · simp only [h2]; exact h4
    · simp only [h2]; exact h4
/-- a for whose state is a fold -/
theorem turns_fold {β σ : Type} {tg : T → Fv → Option Fv} {body : Sx} {g : β → T} {step : σ → β → σ} {R : σ → Fv → Prop} : ∀ (xs : List β) (s : σ) (env : Fv),
    (∀ s x e, x ∈ xs → R s e → ∃ e1 e2, tg (g x) e = some e1 ∧ (body e1 = .nx e2 ∨ body e1 = .ct e2) ∧ R (step s x) e2) → R s env → ∃ e, S.turns tg body (xs.map g) env = .nx e ∧ R (xs.foldl step s) e
  | [], s, env, _, r => ⟨env, rfl, r⟩
  | x :: xs, s, env, h, r => by
    obtain ⟨e1, e2, h1, h2, h3⟩ := h s x env List.mem_cons_self r
    obtain ⟨e, h4, h5⟩ := turns_fold xs (step s x) e2 (fun s y e m => h s y e (List.mem_cons_of_mem _ m)) h3
    refine ⟨e, ?_, h5⟩
    rw [List.map_cons]
    show (match tg (g x) env with
      | some env1 => (match body env1 with
        | .nx env => S.turns tg body (xs.map g) env
        | .ct env => S.turns tg body (xs.map g) env
        | .br env => .nx env
        | r => r)
      | none => .stuck) = _
    rw [h1]
    rcases h2 with h2 | h2
    · simp only [h2]; exact h4
    · simp only [h2]; exact h4
/-- a for that may return: found tells at which items -/
theorem turns_find {β : Type} {tg : T → Fv → Option Fv} {body : Sx} {g : β → T} {R : Fv → Prop} {hit : β → Bool} {r : T} : ∀ (xs : List β) (env : Fv),
    (∀ x e, x ∈ xs → R e → ∃ e1, tg (g x) e = some e1 ∧ ((hit x = true ∧ body e1 = .rt r) ∨ (hit x = false ∧ ∃ e2, (body e1 = .nx e2 ∨ body e1 = .ct e2) ∧ R e2))) → R env →
    (xs.any hit = true ∧ S.turns tg body (xs.map g) env = .rt r) ∨ (xs.any hit = false ∧ ∃ e, S.turns tg body (xs.map g) env = .nx e ∧ R e)
  | [], env, _, q => .inr ⟨rfl, env, rfl, q⟩
  | x :: xs, env, h, q => by
    obtain ⟨e1, h1, h2⟩ := h x env List.mem_cons_self q
    have e0 : S.turns tg body ((x :: xs).map g) env = (match tg (g x) env with
      | some env1 => (match body env1 with
        | .nx env => S.turns tg body (xs.map g) env
        | .ct env => S.turns tg body (xs.map g) env
        | .br env => .nx env
        | r => r)
      | none => .stuck) := nrfl rfl
    rw [e0, h1]
    rcases h2 with ⟨hh, hb⟩ | ⟨hh, e2, hb, hq⟩
    · exact .inl ⟨by rw [List.any_cons, hh]; rfl, by simp only [hb]⟩
    · rw [List.any_cons, hh, Bool.false_or]
      have ih := turns_find xs e2 (fun y e m => h y e (List.mem_cons_of_mem _ m)) hq
      rcases hb with hb | hb
      · simp only [hb]; exact ih
      · simp only [hb]; exact ih
theorem turnsC_map {β : Type} {tg : T → Fv → Option Fv} {b : P.Bx} {p : P.Ex1} {env : Fv} {g : β → T} {c : β → Bool} {f : β → T} : ∀ (xs : List β),
    (∀ x, x ∈ xs → ∃ e1, tg (g x) env = some e1 ∧ b e1 = .ok (c x) ∧ (c x = true → p e1 = .ok (f x))) → P.turnsC tg b p env (xs.map g) = .ok ((xs.filter c).map f)
  | [], _ => rfl
  | x :: xs, h => by
    obtain ⟨e1, h1, h2, h3⟩ := h x List.mem_cons_self
    have ih := turnsC_map xs fun y m => h y (List.mem_cons_of_mem _ m)
    rw [List.map_cons]
    show (match tg (g x) env with
      | some env1 => (match b env1 with
        | .ok bb => if bb = true then (match p env1 with
            | .ok y => (P.turnsC tg b p env (xs.map g)).bind fun ys => .ok (y :: ys)
            | _ => .stuck) else P.turnsC tg b p env (xs.map g)
        | _ => .stuck)
      | none => .stuck) = _
    simp only [h1, h2]
    cases q : c x with
    | true =>
      simp only [if_true, h3 q, ih, Res.bind_ok]
      rw [List.filter_cons_of_pos q, List.map_cons]
    | false =>
      rw [if_neg Bool.false_ne_true, ih, List.filter_cons_of_neg (by rw [q]; exact Bool.false_ne_true)]
/-- step by step -/
def iter {σ : Type} (f : σ → σ) : Nat → σ → σ
  | 0, s => s
  | n + 1, s => iter f n (f s)
/-- a while: m goes down -/
theorem while_rel {σ : Type} {b : P.Bx} {body : Sx} {step : σ → σ} {go : σ → Bool} {R : σ → Fv → Prop} {m : σ → Nat}
    (h : ∀ s e, R s e → b e = .ok (go s) ∧ (go s = true → m (step s) < m s ∧ ∃ e2, (body e = .nx e2 ∨ body e = .ct e2) ∧ R (step s) e2)) : ∀ (n : Nat) (s : σ) (env : Fv), R s env → m s < n →
    ∃ k e, S.while_ b body n env = .nx e ∧ R (iter step k s) e ∧ go (iter step k s) = false
  | 0, s, env, _, hm => absurd hm (Nat.not_lt_zero _)
  | n + 1, s, env, r, hm => by
    obtain ⟨h1, h2⟩ := h s env r
    have e0 : S.while_ b body (n + 1) env = (b env).thenX env fun b' => if b' = true then (match body env with
      | .nx env => S.while_ b body n env
      | .ct env => S.while_ b body n env
      | .br env => .nx env
      | r => r) else .nx env := rfl
    rw [e0, h1, Res.thenX_ok]
    cases q : go s with
    | false => exact ⟨0, env, by rw [if_neg Bool.false_ne_true], r, q⟩
    | true =>
      obtain ⟨h3, e2, h4, h5⟩ := h2 q
      obtain ⟨k, e, w1, w2, w3⟩ := while_rel h n (step s) e2 h5 (by omega)
      refine ⟨k + 1, e, ?_, w2, w3⟩
      rw [if_pos rfl]
      rcases h4 with h4 | h4
      · simp only [h4]; exact w1
      · simp only [h4]; exact w1
end Py

set_option Elab.async false
set_option linter.all false
set_option maxRecDepth 100000
set_option maxHeartbeats 4000000
namespace Py
open PySem L2

/-! ### the operators at told trees -/
section
variable {i j : Int} {g g' : Option Tag} {ts us : List T} {b c : Bool} {x y : T} {d n : Nat} {env : Fv} {o : Option Sl}
@[simp] theorem add_int : T.add (.int i) (.int j) = some (.int (i + j)) := nrfl rfl
@[simp] theorem sub_int : T.sub (.int i) (.int j) = some (.int (i - j)) := nrfl rfl
theorem mul_int (h : mfit i j = true) : T.mul (.int i) (.int j) = some (.int (i * j)) := if_pos h
theorem mod_int (h : 0 < j) : T.mod (.int i) (.int j) = some (.int (i % j)) := if_pos (decide_eq_true h)
theorem fdiv_int (h : 0 < j) (h2 : dfit j = true) : T.fdiv (.int i) (.int j) = some (.int (i / j)) := if_pos (by rw [decide_eq_true h, h2]; rfl)
theorem shl_int (h : 0 ≤ j) (h2 : j ≤ 1000000) (h3 : sfit i = true) : T.shl (.int i) (.int j) = some (.int (i * 2 ^ j.toNat)) := if_pos (by rw [decide_eq_true h, decide_eq_true h2, h3]; rfl)
theorem shl_one (h : 0 ≤ j) (h2 : j ≤ 1000000) : T.shl (.int 1) (.int j) = some (.int (2 ^ j.toNat)) := by rw [shl_int h h2 rfl, Int.one_mul]
theorem shr_int (h : 0 ≤ j) : T.shr (.int i) (.int j) = some (.int (i / 2 ^ j.toNat)) := if_pos (decide_eq_true h)
@[simp] theorem band_int : T.band (.int i) (.int j) = some (.int (Builtin.bitAnd i j)) := nrfl rfl
@[simp] theorem bor_int : T.bor (.int i) (.int j) = some (.int (Builtin.bitOr i j)) := nrfl rfl
@[simp] theorem inv_int : T.inv (.int i) = some (.int (Builtin.bitNot i)) := nrfl rfl
@[simp] theorem neg_int : T.neg (.int i) = some (.int (-i)) := nrfl rfl
@[simp] theorem eq_int : T.eq (.int i) (.int j) = some (.bl (decide (i = j))) := by
  show (if (true && true) = true then some (T.bl (i == j)) else none) = _
  rfl
@[simp] theorem ne_int : T.ne (.int i) (.int j) = some (.bl (!decide (i = j))) := by
  show (if (true && true) = true then some (T.bl (!(i == j))) else none) = _
  rfl
@[simp] theorem eq_bl : T.eq (.bl b) (.bl c) = some (.bl (b == c)) := nrfl rfl
@[simp] theorem ne_bl : T.ne (.bl b) (.bl c) = some (.bl (b != c)) := nrfl rfl
@[simp] theorem lt_int : T.lt (.int i) (.int j) = some (.bl (decide (i < j))) := nrfl rfl
@[simp] theorem le_int : T.le (.int i) (.int j) = some (.bl (decide (i ≤ j))) := nrfl rfl
@[simp] theorem gt_int : T.gt (.int i) (.int j) = some (.bl (decide (j < i))) := nrfl rfl
@[simp] theorem ge_int : T.ge (.int i) (.int j) = some (.bl (decide (j ≤ i))) := nrfl rfl
@[simp] theorem boo_bl : T.boo (.bl b) = some b := nrfl rfl
@[simp] theorem items_lst : T.items (.lst g ts) = some ts := nrfl rfl
@[simp] theorem items_ro : T.items (.ro ts) = some ts := nrfl rfl
@[simp] theorem items_tup : T.items (.tup ts) = some ts := nrfl rfl
@[simp] theorem B_int : B.int [.int i] = some (.int i) := nrfl rfl
@[simp] theorem B_intb : B.int [.bl b] = some (.int (if b then 1 else 0)) := nrfl rfl
@[simp] theorem B_len : B.len [.lst g ts] = some (.int ts.length) := nrfl rfl
@[simp] theorem B_lenR : B.len [.ro ts] = some (.int ts.length) := nrfl rfl
@[simp] theorem B_lenT : B.len [.tup ts] = some (.int ts.length) := nrfl rfl
@[simp] theorem tru_bl : T.tru (.bl b) = some b := nrfl rfl
theorem ixN_nat {n k : Nat} (h : k < n) : ixN n (k : Int) = some k := by
  unfold ixN
  rw [if_pos (Int.natCast_nonneg k), if_pos (by omega)]
  rfl
theorem atI_nat {α : Type} {xs : List α} {k : Nat} (h : k < xs.length) : atI xs (k : Int) = xs[k]? := by
  unfold atI
  rw [ixN_nat h]
  rfl
theorem atI_int {α : Type} {xs : List α} (h0 : 0 ≤ i) (h : i < xs.length) : atI xs i = xs[i.toNat]? := by
  obtain ⟨k, rfl⟩ := Int.eq_ofNat_of_zero_le h0
  rw [atI_nat (by omega)]
  rfl
@[simp] theorem ix_lst : T.ix (.lst g ts) (.int i) = atI ts i := nrfl rfl
@[simp] theorem ix_ro : T.ix (.ro ts) (.int i) = atI ts i := nrfl rfl
@[simp] theorem ix_tup : T.ix (.tup ts) (.int i) = atI ts i := nrfl rfl
theorem lfit_ok {n : Nat} (h : n ≤ 1000000) : lfit n = true := lfit_of (by omega)
theorem rfit_ok (h0 : -1000000000 ≤ i) (h : i ≤ 1000000000) : rfit i = true := by
  unfold rfit
  rw [decide_eq_true (by omega : -(2 ^ 62) ≤ i), decide_eq_true (by omega : i < 2 ^ 62)]
  rfl
@[simp] theorem cat_lst (h : lfit (ts.length + us.length) = true) : T.catN (.lst g ts) (.lst g' us) = some (ts ++ us) := if_pos h
theorem addL (h : lfit (ts.length + us.length) = true) : T.add (.lst g ts) (.lst g' us) = some (.lst none (ts ++ us)) := if_pos h
end
/-- the frame of a call -/
theorem run_eq {n : Nat} {s : Sx} {ts : List T} : run n s ts = fin (s (ent n ts)) := rfl

/-! ### the cells and digits that each law draws -/
/-- digits within sizes -/
def Digs : List Int → List Int → Prop
  | [], [] => True
  | x :: xs, s :: ss => (0 ≤ x ∧ x < s) ∧ Digs xs ss
  | _, _ => False
theorem Digs.snoc : ∀ {xs ss : List Int} {x s : Int}, Digs xs ss → 0 ≤ x → x < s → Digs (xs ++ [x]) (ss ++ [s])
  | [], [], _, _, _, h1, h2 => ⟨⟨h1, h2⟩, trivial⟩
  | _ :: _, _ :: _, _, _, h, h1, h2 => ⟨h.1, Digs.snoc h.2 h1 h2⟩
theorem Digs.length : ∀ {xs ss : List Int}, Digs xs ss → xs.length = ss.length
  | [], [], _ => rfl
  | _ :: _, _ :: _, h => by rw [List.length_cons, List.length_cons, Digs.length h.2]
namespace LL
def S_digitsG (pw : T → T → Option T) (d : Nat) : Sx :=
  S.seq (S.new 2 (lfits P.nil))
  (S.seq (S.asg 3 (P.bin T.mod (P.call (fun ts => .of (B.int ts)) (P.cons (P.var d 0) P.nil)) (P.bin T.mul (P.bin T.mul (P.bin pw (P.c (.int 10)) (P.c (.int 60))) (P.bin pw (P.c (.int 10)) (P.c (.int 60)))) (P.bin pw (P.c (.int 10)) (P.c (.int 60))))))
  (S.seq (S.ite (P.tb (P.bin T.ge (P.var d 3) (P.bin pw (P.c (.int 10)) (P.c (.int 18)))))
  (S.seq (S.asg 3 (P.bin T.sub (P.var d 3) (P.bin pw (P.c (.int 10)) (P.c (.int 18)))))
  (S.seq (S.for_ (S.tName 4) (P.items (P.var d 1))
  (S.seq (S.app 2 (P.bin T.mod (P.call (fun ts => .of (B.int ts)) (P.cons (P.var d 3) P.nil)) (P.var d 4)))
  (S.asg 3 (P.bin T.fdiv (P.call (fun ts => .of (B.int ts)) (P.cons (P.var d 3) P.nil)) (P.var d 4)))))
  (S.frz 2 (S.ret (P.var d 2)))))
  S.skip)
  (S.seq (S.asg 5 (P.bin T.mod (P.call (fun ts => .of (B.int ts)) (P.cons (P.var d 3) P.nil)) (P.c (.int 2147483629))))
  (S.seq (S.forX (S.tName 6) (P.rng1 (P.cons (P.call (fun ts => .of (B.len ts)) (P.cons (P.var d 1) P.nil)) P.nil))
  (S.seq (S.asg 5 (P.bin T.mod (P.call (fun ts => .of (B.int ts)) (P.cons (P.bin T.add (P.bin T.add (P.bin T.mul (P.var d 5) (P.c (.int 48271))) (P.bin T.mul (P.c (.int 974711)) (P.var d 6))) (P.c (.int 12345))) P.nil)) (P.c (.int 2147483647))))
  (S.seq (S.asg 7 (P.bin T.mod (P.call (fun ts => .of (B.int ts)) (P.cons (P.bin T.mul (P.var d 5) (P.bin T.add (P.bin T.fdiv (P.var d 5) (P.c (.int 65537))) (P.c (.int 3)))) P.nil)) (P.c (.int 2147483629))))
  (S.app 2 (P.bin T.mod (P.call (fun ts => .of (B.int ts)) (P.cons (P.bin T.fdiv (P.var d 7) (P.c (.int 19))) P.nil)) (P.bin T.ix (P.var d 1) (P.var d 6)))))))
  (S.frz 2 (S.ret (P.var d 2)))))))
def S_digits (d : Nat) : Sx := S_digitsG T.pow d
def S_cell (d : Nat) : Sx :=
  S.seq (S.ite (P.tb (P.bin T.lt (P.var d 1) (P.call (fun ts => .of (B.len ts)) (P.cons (P.var d 0) P.nil))))
  (S.ret (P.call (fun ts => .of (B.int ts)) (P.cons (P.bin T.ix (P.var d 0) (P.var d 1)) P.nil)))
  S.skip)
  (S.seq (S.asg 2 (P.c (.int 7)))
  (S.seq (S.for_ (S.tName 3) (P.items (P.var d 0))
  (S.asg 2 (P.bin T.mod (P.call (fun ts => .of (B.int ts)) (P.cons (P.bin T.add (P.bin T.mul (P.var d 2) (P.c (.int 33))) (P.bin T.mod (P.call (fun ts => .of (B.int ts)) (P.cons (P.var d 3) P.nil)) (P.c (.int 999983)))) P.nil)) (P.c (.int 999983)))))
  (S.ret (P.bin T.mod (P.call (fun ts => .of (B.int ts)) (P.cons (P.bin T.mul (P.bin T.mul (P.bin T.add (P.var d 2) (P.c (.int 11))) (P.bin T.add (P.var d 1) (P.c (.int 5)))) (P.c (.int 48271))) P.nil)) (P.c (.int 2147483647))))))
end LL
set_option exponentiation.threshold 100000
theorem mul_small {i j : Int} (h1 : i.natAbs < 2 ^ 1000) (h2 : j.natAbs < 2 ^ 1000) : T.mul (.int i) (.int j) = some (.int (i * j)) := mul_int (mfit_of 1000 1000 h1 h2)
theorem nat_lt_big {i : Int} (h1 : -1000000000000000000 ≤ i) (h2 : i ≤ 1000000000000000000) : i.natAbs < 2 ^ 1000 := Nat.lt_of_le_of_lt (show i.natAbs ≤ 1000000000000000000 by omega) (by decide)
/-- a cell: some whole number -/
theorem cell_ev (d : Nat) (ns : List Int) (k : Nat) (hk : k ≤ 1000000) : ∃ c : Int, run 4 (LL.S_cell d) [.ro (ns.map T.int), .int k] = .ok (.int c) := by
  have e0 : ent 4 [.ro (ns.map T.int), .int k] = [some (.fz (.ro (ns.map T.int))), some (.fz (.int k)), none, none] := rfl
  unfold run LL.S_cell
  rw [e0]
  by_cases h : k < ns.length
  · have e1 : atI (ns.map T.int) (k : Int) = some (.int ns[k]) := by
      rw [atI_nat (by simpa using h), List.getElem?_map, List.getElem?_eq_getElem h]
      rfl
    exact ⟨ns[k], by simp [e1, h]⟩
  · have hf := turns_fold (tg := S.tName 3) (body := S.asg 2 (P.bin T.mod (P.call (fun ts => .of (B.int ts)) (P.cons (P.bin T.add (P.bin T.mul (P.var d 2) (P.c (.int 33))) (P.bin T.mod (P.call (fun ts => .of (B.int ts)) (P.cons (P.var d 3) P.nil)) (P.c (.int 999983)))) P.nil)) (P.c (.int 999983)))) (g := T.int)
      (step := fun (s : Int) (x : Int) => (s * 33 + x % 999983) % 999983) (R := fun s e => (0 ≤ s ∧ s < 999983) ∧ ∃ o, e = [some (.fz (.ro (ns.map T.int))), some (.fz (.int k)), some (.fz (.int s)), o]) ns 7 [some (.fz (.ro (ns.map T.int))), some (.fz (.int k)), some (.fz (.int 7)), none] (by
        rintro s x e - ⟨⟨s1, s2⟩, o, rfl⟩
        refine ⟨_, _, rfl, .inl ?_, ⟨by omega, by omega⟩, some (.fz (.int x)), rfl⟩
        simp [mul_small (nat_lt_big (i := s) (by omega) (by omega)) (nat_lt_big (i := 33) (by omega) (by omega)), mod_int]) ⟨by omega, none, rfl⟩
    obtain ⟨e, h1, ⟨h3, h4⟩, o, rfl⟩ := hf
    generalize ns.foldl (fun (s : Int) (x : Int) => (s * 33 + x % 999983) % 999983) 7 = s at *
    have hc : ¬ ((k : Int) < ns.length) := by omega
    refine ⟨((s + 11) * (k + 5) * 48271) % 2147483647, ?_⟩
    have m1 : T.mul (.int (s + 11)) (.int ((k : Int) + 5)) = some (.int ((s + 11) * (k + 5))) := mul_small (nat_lt_big (by omega) (by omega)) (nat_lt_big (by omega) (by omega))
    have b1 : 0 ≤ (s + 11) * ((k : Int) + 5) := Int.mul_nonneg (by omega) (by omega)
    have b2 : (s + 11) * ((k : Int) + 5) ≤ 1000000 * 1000005 := Int.mul_le_mul (by omega) (by omega) (by omega) (by omega)
    have m2 : T.mul (.int ((s + 11) * (k + 5))) (.int 48271) = some (.int ((s + 11) * (k + 5) * 48271)) := mul_small (nat_lt_big (by omega) (by omega)) (nat_lt_big (by omega) (by omega))
    simp [hc, h1, m1, m2, mod_int]
theorem tens : ∃ a b k e : Int, T.pow (.int 10) (.int 60) = some (.int a) ∧ T.mul (.int a) (.int a) = some (.int b) ∧ T.mul (.int b) (.int a) = some (.int k) ∧ T.pow (.int 10) (.int 18) = some (.int e) ∧ 0 < k :=
  ⟨10 ^ 60, 10 ^ 120, 10 ^ 180, 10 ^ 18, rfl, mul_int (by decide), mul_int (by decide), rfl, by decide⟩
theorem hide_set {e : Fv} {i : Nat} {t : T} {o : Option Sl} (h : e[i]? = some o) : (hide (e.set i (some (.fz t))))[i]? = some (some (.fz t)) := by
  unfold hide
  rw [List.getElem?_map, List.getElem?_set_self (List.getElem?_eq_some_iff.mp h).1]
  rfl
theorem range_pre {n x : Nat} {p post : List Nat} (h : List.range n = p ++ x :: post) : x = p.length ∧ x < n := by
  have e1 : (List.range n)[p.length]? = some x := by rw [h]; simp
  have hlt : p.length < n := by
    have := congrArg List.length h
    simp at this
    omega
  rw [List.getElem?_range hlt] at e1
  cases e1
  exact ⟨rfl, hlt⟩
theorem if_same {α : Type} {c : Prop} [Decidable c] {x : α} : (if c then x else x) = x := by split <;> rfl
/-- the loop of the first branch -/
theorem digitsA (d : Nat) (t0 t1 o5 o6 o7 : Option Sl) (rest : Int) (sz : List Int) (hs : ∀ s ∈ sz, 0 < s ∧ s < 2 ^ 1000) (hl : sz.length ≤ 1000) : ∃ (xs : List Int) (e : Fv), Digs xs sz ∧ e[2]? = some (some (.ol (xs.map T.int))) ∧
    S.turns (S.tName 4) (S.seq (S.app 2 (P.bin T.mod (P.call (fun ts => .of (B.int ts)) (P.cons (P.var d 3) P.nil)) (P.var d 4))) (S.asg 3 (P.bin T.fdiv (P.call (fun ts => .of (B.int ts)) (P.cons (P.var d 3) P.nil)) (P.var d 4)))) (sz.map T.int)
      [t0, t1, some (.ol []), some (.fz (.int rest)), none, o5, o6, o7] = .nx e := by
  have hf := turns_pre (tg := S.tName 4) (body := S.seq (S.app 2 (P.bin T.mod (P.call (fun ts => .of (B.int ts)) (P.cons (P.var d 3) P.nil)) (P.var d 4))) (S.asg 3 (P.bin T.fdiv (P.call (fun ts => .of (B.int ts)) (P.cons (P.var d 3) P.nil)) (P.var d 4))))
    (g := T.int) (R := fun p e => ∃ (xs : List Int) (r : Int) (o : Option Sl), Digs xs p ∧ e = [t0, t1, some (.ol (xs.map T.int)), some (.fz (.int r)), o, o5, o6, o7]) sz [] [t0, t1, some (.ol []), some (.fz (.int rest)), none, o5, o6, o7] (by
      rintro p x post e hp ⟨xs, r, o, hd, rfl⟩
      have hp' : sz = p ++ x :: post := hp
      obtain ⟨h1, h2⟩ := hs x (by rw [hp']; simp)
      have hlx : xs.length < sizeLine := by
        have : xs.length ≤ sz.length := by rw [hd.length, hp']; simp
        exact Nat.lt_of_le_of_lt (Nat.le_trans this hl) (by decide)
      refine ⟨_, _, rfl, .inl ?_, xs ++ [r % x], r / x, some (.fz (.int x)), hd.snoc (Int.emod_nonneg _ (by omega)) (Int.emod_lt_of_pos _ h1), rfl⟩
      have hdf : dfit x = true := dfit_of 1000 (by omega)
      simp [mod_int h1, fdiv_int h1 hdf, hlx]) ⟨[], rest, none, trivial, rfl⟩
  obtain ⟨e, h1, xs, r, o, h2, rfl⟩ := hf
  exact ⟨xs, _, h2, rfl, h1⟩
/-- the loop of the second branch -/
theorem digitsB (d : Nat) (t0 : Option Sl) (g : Option Tag) (seed rest : Int) (sz : List Int) (h0 : 0 ≤ seed) (h1 : seed < 2147483648) (hs : ∀ s ∈ sz, 0 < s ∧ s < 2 ^ 1000) (hl : sz.length ≤ 1000) : ∃ (xs : List Int) (e : Fv), Digs xs sz ∧ e[2]? = some (some (.ol (xs.map T.int))) ∧
    S.turns (S.tName 6) (S.seq (S.asg 5 (P.bin T.mod (P.call (fun ts => .of (B.int ts)) (P.cons (P.bin T.add (P.bin T.add (P.bin T.mul (P.var d 5) (P.c (.int 48271))) (P.bin T.mul (P.c (.int 974711)) (P.var d 6))) (P.c (.int 12345))) P.nil)) (P.c (.int 2147483647))))
      (S.seq (S.asg 7 (P.bin T.mod (P.call (fun ts => .of (B.int ts)) (P.cons (P.bin T.mul (P.var d 5) (P.bin T.add (P.bin T.fdiv (P.var d 5) (P.c (.int 65537))) (P.c (.int 3)))) P.nil)) (P.c (.int 2147483629))))
      (S.app 2 (P.bin T.mod (P.call (fun ts => .of (B.int ts)) (P.cons (P.bin T.fdiv (P.var d 7) (P.c (.int 19))) P.nil)) (P.bin T.ix (P.var d 1) (P.var d 6)))))) (rng 0 sz.length)
      [t0, some (.fz (.lst g (sz.map T.int))), some (.ol []), some (.fz (.int rest)), none, some (.fz (.int seed)), none, none] = .nx e := by
  have hf := turns_pre (tg := S.tName 6) (body := S.seq (S.asg 5 (P.bin T.mod (P.call (fun ts => .of (B.int ts)) (P.cons (P.bin T.add (P.bin T.add (P.bin T.mul (P.var d 5) (P.c (.int 48271))) (P.bin T.mul (P.c (.int 974711)) (P.var d 6))) (P.c (.int 12345))) P.nil)) (P.c (.int 2147483647))))
      (S.seq (S.asg 7 (P.bin T.mod (P.call (fun ts => .of (B.int ts)) (P.cons (P.bin T.mul (P.var d 5) (P.bin T.add (P.bin T.fdiv (P.var d 5) (P.c (.int 65537))) (P.c (.int 3)))) P.nil)) (P.c (.int 2147483629))))
      (S.app 2 (P.bin T.mod (P.call (fun ts => .of (B.int ts)) (P.cons (P.bin T.fdiv (P.var d 7) (P.c (.int 19))) P.nil)) (P.bin T.ix (P.var d 1) (P.var d 6))))))
    (g := fun (k : Nat) => T.int (0 + (k : Int))) (R := fun p e => ∃ (xs : List Int) (s : Int) (o6 o7 : Option Sl), Digs xs (sz.take p.length) ∧ (0 ≤ s ∧ s < 2147483648) ∧ e = [t0, some (.fz (.lst g (sz.map T.int))), some (.ol (xs.map T.int)), some (.fz (.int rest)), none, some (.fz (.int s)), o6, o7]) (List.range sz.length) []
      [t0, some (.fz (.lst g (sz.map T.int))), some (.ol []), some (.fz (.int rest)), none, some (.fz (.int seed)), none, none] (by
      rintro p x post e hp ⟨xs, s, o6, o7, hd, ⟨s0, s1⟩, rfl⟩
      have hp' : List.range sz.length = p ++ x :: post := hp
      have hx := range_pre hp'
      obtain ⟨hx1, hx2⟩ := hx
      obtain ⟨k1, k2⟩ := hs sz[x] (List.getElem_mem hx2)
      have hlx : xs.length < sizeLine := by
        have : xs.length ≤ sz.length := by rw [hd.length, List.length_take]; omega
        exact Nat.lt_of_le_of_lt (Nat.le_trans this hl) (by decide)
      have ei : atI (sz.map T.int) ((x : Nat) : Int) = some (.int sz[x]) := by
        rw [atI_nat (by simpa using hx2), List.getElem?_map, List.getElem?_eq_getElem hx2]
        rfl
      have m1 : T.mul (.int s) (.int 48271) = some (.int (s * 48271)) := mul_small (nat_lt_big (by omega) (by omega)) (nat_lt_big (by omega) (by omega))
      have m2 : T.mul (.int 974711) (.int (x : Int)) = some (.int (974711 * (x : Int))) := mul_small (nat_lt_big (by omega) (by omega)) (nat_lt_big (by omega) (by omega))
      have b0 := Int.emod_nonneg (s * 48271 + 974711 * (x : Int) + 12345) (b := 2147483647) (by omega)
      have b1 := Int.emod_lt_of_pos (s * 48271 + 974711 * (x : Int) + 12345) (b := 2147483647) (by omega)
      have m3 : T.mul (.int ((s * 48271 + 974711 * (x : Int) + 12345) % 2147483647)) (.int ((s * 48271 + 974711 * (x : Int) + 12345) % 2147483647 / 65537 + 3)) = some (.int ((s * 48271 + 974711 * (x : Int) + 12345) % 2147483647 * ((s * 48271 + 974711 * (x : Int) + 12345) % 2147483647 / 65537 + 3))) := by
        generalize (s * 48271 + 974711 * (x : Int) + 12345) % 2147483647 = z at b0 b1
        exact mul_small (nat_lt_big (by omega) (by omega)) (nat_lt_big (by omega) (by omega))
      have d1 : dfit 65537 = true := rfl
      have d2 : dfit 19 = true := rfl
      refine ⟨_, _, rfl, .inl ?_, xs ++ [((s * 48271 + 974711 * (x : Int) + 12345) % 2147483647 * ((s * 48271 + 974711 * (x : Int) + 12345) % 2147483647 / 65537 + 3)) % 2147483629 / 19 % sz[x]], (s * 48271 + 974711 * (x : Int) + 12345) % 2147483647, some (.fz (.int (x : Int))), some (.fz (.int (((s * 48271 + 974711 * (x : Int) + 12345) % 2147483647 * ((s * 48271 + 974711 * (x : Int) + 12345) % 2147483647 / 65537 + 3)) % 2147483629))), ?_, ⟨b0, by omega⟩, rfl⟩
      · simp [mod_int, fdiv_int, m1, m2, m3, d1, d2, ei, k1, hlx]
      · rw [List.length_append, List.length_singleton, List.take_add_one, ← hx1, List.getElem?_eq_getElem hx2]
        exact (hx1 ▸ hd).snoc (Int.emod_nonneg _ (by omega)) (Int.emod_lt_of_pos _ k1)) ⟨[], seed, none, none, by simp [Digs], ⟨h0, h1⟩, rfl⟩
  obtain ⟨e, h2, xs, r, o, o', h3, _, rfl⟩ := hf
  refine ⟨xs, _, ?_, rfl, h2⟩
  simpa using h3
theorem digits_gen {pw : T → T → Option T} {a b k z : Int} (p1 : pw (.int 10) (.int 60) = some (.int a)) (p2 : T.mul (.int a) (.int a) = some (.int b)) (p3 : T.mul (.int b) (.int a) = some (.int k)) (p4 : pw (.int 10) (.int 18) = some (.int z)) (kpos : 0 < k) (d : Nat) (c : Int) (g : Option Tag) (sz : List Int) (hs : ∀ s ∈ sz, 0 < s ∧ s < 2 ^ 1000) (hl : sz.length ≤ 1000) : ∃ xs : List Int, Digs xs sz ∧ run 8 (LL.S_digitsG pw d) [.int c, .lst g (sz.map T.int)] = .ok (.lst none (xs.map T.int)) := by
  have e0 : ent 8 [.int c, .lst g (sz.map T.int)] = [some (.fz (.int c)), some (.fz (.lst g (sz.map T.int))), none, none, none, none, none, none] := rfl
  unfold run LL.S_digitsG
  rw [e0]
  by_cases h : z ≤ c % k
  · obtain ⟨xs, e, h1, h2, h3⟩ := digitsA d (some (.fz (.int c))) (some (.fz (.lst g (sz.map T.int)))) none none none (c % k - z) sz hs hl
    refine ⟨xs, h1, ?_⟩
    simp [p1, p2, p3, p4, mod_int kpos, h, lfit_ok, h3, h2, hide_set h2]
  · have q0 : 0 ≤ c % k % 2147483629 := Int.emod_nonneg (c % k) (by decide)
    have q1 : c % k % 2147483629 < 2147483629 := Int.emod_lt_of_pos (c % k) (by decide)
    have q2 : c % k % 2147483629 < 2147483648 := Int.lt_trans q1 (by decide)
    obtain ⟨xs, e, h1, h2, h3⟩ := digitsB d (some (.fz (.int c))) g (c % k % 2147483629) (c % k) sz q0 q2 hs hl
    refine ⟨xs, h1, ?_⟩
    have hr : rfit (sz.length : Int) = true := rfit_ok (by omega) (by omega)
    simp [p1, p2, p3, p4, mod_int, kpos, h, lfit_ok, hr, h3, h2, hide_set h2]
theorem digits_ev (d : Nat) (c : Int) (g : Option Tag) (sz : List Int) (hs : ∀ s ∈ sz, 0 < s ∧ s < 2 ^ 1000) (hl : sz.length ≤ 1000) : ∃ xs : List Int, Digs xs sz ∧ run 8 (LL.S_digits d) [.int c, .lst g (sz.map T.int)] = .ok (.lst none (xs.map T.int)) := by
  obtain ⟨a, b, k, z, p1, p2, p3, p4, kpos⟩ := tens
  exact digits_gen p1 p2 p3 p4 kpos d c g sz hs hl
end Py

set_option Elab.async false
set_option linter.all false
set_option maxRecDepth 100000
set_option maxHeartbeats 4000000
namespace Py
open PySem L2

/-! ### isinstance, errors, frames at entry -/
section
variable {α : Type} {i : Int} {b : Bool} {s : Str} {g : Option Tag} {ts : List T} {n : Nat} {env : Fv}
theorem ki1 : kitB "int" "int" = some true := by decide +kernel
theorem ki2 : kitB "int" "bool" = some false := by decide +kernel
theorem ki3 : kitB "int" "str" = some false := by decide +kernel
theorem ki4 : kitB "int" "list" = some false := by decide +kernel
theorem ki5 : kitB "int" "tuple" = some false := by decide +kernel
theorem kb1 : kitB "bool" "int" = some true := by decide +kernel
theorem kb2 : kitB "bool" "bool" = some true := by decide +kernel
theorem kb3 : kitB "bool" "str" = some false := by decide +kernel
theorem kb4 : kitB "bool" "list" = some false := by decide +kernel
theorem kb5 : kitB "bool" "tuple" = some false := by decide +kernel
theorem ks1 : kitB "str" "int" = some false := by decide +kernel
theorem ks2 : kitB "str" "bool" = some false := by decide +kernel
theorem ks3 : kitB "str" "str" = some true := by decide +kernel
theorem ks4 : kitB "str" "list" = some false := by decide +kernel
theorem ks5 : kitB "str" "tuple" = some false := by decide +kernel
theorem kl1 : kitB "list" "int" = some false := by decide +kernel
theorem kl2 : kitB "list" "bool" = some false := by decide +kernel
theorem kl3 : kitB "list" "str" = some false := by decide +kernel
theorem kl4 : kitB "list" "list" = some true := by decide +kernel
theorem kl5 : kitB "list" "tuple" = some false := by decide +kernel
theorem kt1 : kitB "tuple" "int" = some false := by decide +kernel
theorem kt2 : kitB "tuple" "bool" = some false := by decide +kernel
theorem kt3 : kitB "tuple" "str" = some false := by decide +kernel
theorem kt4 : kitB "tuple" "list" = some false := by decide +kernel
theorem kt5 : kitB "tuple" "tuple" = some true := by decide +kernel
theorem kn1 : kitB "NoneType" "int" = some false := by decide +kernel
theorem kn2 : kitB "NoneType" "bool" = some false := by decide +kernel
theorem kn3 : kitB "NoneType" "str" = some false := by decide +kernel
theorem kn4 : kitB "NoneType" "list" = some false := by decide +kernel
theorem kn5 : kitB "NoneType" "tuple" = some false := by decide +kernel
@[simp] theorem isi_int {c : String} : T.isi c (.int i) = (kitB "int" c).map .bl := nrfl rfl
@[simp] theorem isi_bl {c : String} : T.isi c (.bl b) = (kitB "bool" c).map .bl := nrfl rfl
@[simp] theorem isi_str {c : String} : T.isi c (.str s) = (kitB "str" c).map .bl := nrfl rfl
@[simp] theorem isi_non {c : String} : T.isi c .non = (kitB "NoneType" c).map .bl := nrfl rfl
@[simp] theorem isi_lst {c : String} : T.isi c (.lst g ts) = (kitB "list" c).map .bl := nrfl rfl
@[simp] theorem isi_tup {c : String} : T.isi c (.tup ts) = (kitB "tuple" c).map .bl := nrfl rfl
theorem isi_tab : kitB "int" "int" = some true ∧ kitB "int" "bool" = some false ∧ kitB "int" "str" = some false ∧ kitB "int" "list" = some false ∧ kitB "int" "tuple" = some false ∧ kitB "bool" "int" = some true ∧ kitB "bool" "bool" = some true ∧ kitB "bool" "str" = some false ∧ kitB "bool" "list" = some false ∧ kitB "bool" "tuple" = some false ∧
    kitB "str" "int" = some false ∧ kitB "str" "bool" = some false ∧ kitB "str" "str" = some true ∧ kitB "str" "list" = some false ∧ kitB "str" "tuple" = some false ∧ kitB "list" "int" = some false ∧ kitB "list" "bool" = some false ∧ kitB "list" "str" = some false ∧ kitB "list" "list" = some true ∧ kitB "list" "tuple" = some false ∧
    kitB "tuple" "int" = some false ∧ kitB "tuple" "bool" = some false ∧ kitB "tuple" "str" = some false ∧ kitB "tuple" "list" = some false ∧ kitB "tuple" "tuple" = some true ∧ kitB "NoneType" "int" = some false ∧ kitB "NoneType" "bool" = some false ∧ kitB "NoneType" "str" = some false ∧ kitB "NoneType" "list" = some false ∧ kitB "NoneType" "tuple" = some false :=
  ⟨ki1, ki2, ki3, ki4, ki5, kb1, kb2, kb3, kb4, kb5, ks1, ks2, ks3, ks4, ks5, kl1, kl2, kl3, kl4, kl5, kt1, kt2, kt3, kt4, kt5, kn1, kn2, kn3, kn4, kn5⟩
theorem ent_eq : ent n ts = ts.map (fun t => some (.fz t)) ++ List.replicate (n - ts.length) none := nrfl rfl
@[simp] theorem ev_raise {c : Nat} {ns : List Str} {a : P.Ax} : S.raise_ c ns a env = (a (hide env)).then_ env fun ts => if ts.length = ns.length ∧ ts.length ≤ 1000 then .er ⟨c, ns, ts.reverse⟩ env else .stuck := nrfl rfl
def tryK (tk : Nat → Option Bool) (i : Nat) (u : Sx) : RS → RS
  | .er e env1 => (match tk e.c with
    | some true => if i < env1.length then S.done i (u (env1.set i (some (.fz (.exn e.c e.ns e.ts))))) else .stuck
    | some false => .er e env1
    | none => .stuck)
  | r => r
@[simp] theorem ev_try {tk : Nat → Option Bool} {i : Nat} {s u : Sx} : S.try_ tk i s u env = tryK tk i u (s env) := nrfl rfl
@[simp] theorem tryK_nx {tk : Nat → Option Bool} {i : Nat} {u : Sx} : tryK tk i u (.nx env) = .nx env := nrfl rfl
@[simp] theorem tryK_rt {tk : Nat → Option Bool} {i : Nat} {u : Sx} {t : T} : tryK tk i u (.rt t) = .rt t := nrfl rfl
theorem tryK_er {tk : Nat → Option Bool} {i : Nat} {u : Sx} {e : Exn} (h : tk e.c = some true) : tryK tk i u (.er e env) = if i < env.length then S.done i (u (env.set i (some (.fz (.exn e.c e.ns e.ts))))) else .stuck := by
  simp only [tryK, h]
theorem tryK_erN {tk : Nat → Option Bool} {i : Nat} {u : Sx} {e : Exn} (h : tk e.c = some false) : tryK tk i u (.er e env) = .er e env := by
  simp only [tryK, h]
@[simp] theorem done_rt {i : Nat} {t : T} : S.done i (.rt t) = if noX t = true then .rt t else .stuck := nrfl rfl
@[simp] theorem done_nx {i : Nat} : S.done i (.nx env) = if (env.set i none).all noXS = true then .nx (env.set i none) else .stuck := nrfl rfl
@[simp] theorem done_ite {i : Nat} {z : Prop} [Decidable z] {x y : RS} : S.done i (if z then x else y) = if z then S.done i x else S.done i y := by split <;> rfl
@[simp] theorem isx_exn {tk : Nat → Option Bool} {c : Nat} {ns : List Str} : T.isx tk (.exn c ns ts) = (tk c).map .bl := nrfl rfl
@[simp] theorem xf_exn {c : Nat} {f : Str} {ns : List Str} : T.xf c f (.exn c ns ts) = (ns.zip ts).lookup f := nrfl (if_pos rfl)
theorem isA_bl {b c : Bool} : T.isA (.bl b) (.bl c) = some (.bl (decide (b = c) != false)) := nrfl rfl
theorem notA_bl {b c : Bool} : T.notA (.bl b) (.bl c) = some (.bl (decide (b = c) != true)) := nrfl rfl
end
end Py

set_option Elab.async false
set_option linter.all false
set_option maxRecDepth 100000
set_option maxHeartbeats 4000000
namespace Py
open PySem L2

/-! ### bits of whole numbers -/
abbrev nT (k : Nat) : T := .int (k : Int)
theorem bAnd (a b : Nat) : Builtin.bitAnd (a : Int) (b : Int) = ((a &&& b : Nat) : Int) := by
  unfold Builtin.bitAnd
  rw [decide_eq_true (Int.natCast_nonneg a), decide_eq_true (Int.natCast_nonneg b)]
  rfl
theorem bOr (a b : Nat) : Builtin.bitOr (a : Int) (b : Int) = ((a ||| b : Nat) : Int) := bitOr_nn (Int.natCast_nonneg a) (Int.natCast_nonneg b)
/-- a without b's bits -/
def nDiff (a b : Nat) : Nat := a - (a &&& b)
theorem bDiff (a b : Nat) : Builtin.bitAnd (a : Int) (Builtin.bitNot (b : Int)) = (nDiff a b : Int) := by
  have hb : ¬ (0 : Int) ≤ Builtin.bitNot (b : Int) := by
    show ¬ (0 : Int) ≤ -(b : Int) - 1
    omega
  have e : Builtin.bitNot (Builtin.bitNot (b : Int)) = (b : Int) := by
    show -(-(b : Int) - 1) - 1 = b
    omega
  unfold Builtin.bitAnd
  rw [decide_eq_true (Int.natCast_nonneg a), decide_eq_false hb]
  show (a : Int) - ((a &&& (Builtin.bitNot (Builtin.bitNot (b : Int))).toNat : Nat) : Int) = _
  rw [e]
  have h : a &&& b ≤ a := Nat.and_le_left
  unfold nDiff
  show (a : Int) - ((a &&& b : Nat) : Int) = _
  omega
/-- the number whose bits below n are p's -/
def sumB (p : Nat → Bool) : Nat → Nat
  | 0 => 0
  | n + 1 => sumB p n + if p n = true then 2 ^ n else 0
theorem sumB_succ (p : Nat → Bool) (n : Nat) : sumB p (n + 1) = sumB p n + if p n = true then 2 ^ n else 0 := rfl
theorem sumB_lt (p : Nat → Bool) : ∀ n, sumB p n < 2 ^ n
  | 0 => by simp [sumB]
  | n + 1 => by
    have := sumB_lt p n
    rw [Nat.pow_succ]
    unfold sumB
    split <;> omega
theorem sumB_bits (a : Nat) : ∀ n, sumB a.testBit n = a % 2 ^ n
  | 0 => by simp [sumB, Nat.mod_one]
  | n + 1 => by
    rw [Nat.pow_succ, Nat.mod_mul, ← sumB_bits a n, sumB_succ, Nat.testBit_eq_decide_div_mod_eq]
    have h := Nat.mod_lt (a / 2 ^ n) (y := 2) (by omega)
    by_cases c : a / 2 ^ n % 2 = 1
    · simp [c]
    · have c0 : a / 2 ^ n % 2 = 0 := by omega
      simp [c0]
theorem sumB_of {a n : Nat} (h : a < 2 ^ n) : sumB a.testBit n = a := by rw [sumB_bits, Nat.mod_eq_of_lt h]
theorem sumB_congr {p q : Nat → Bool} : ∀ {n : Nat}, (∀ k, k < n → p k = q k) → sumB p n = sumB q n
  | 0, _ => rfl
  | n + 1, h => by
    unfold sumB
    rw [sumB_congr (n := n) fun k hk => h k (by omega), h n (by omega)]
theorem sumB_split (p q : Nat → Bool) : ∀ n, sumB p n = sumB (fun k => p k && q k) n + sumB (fun k => p k && !q k) n
  | 0 => rfl
  | n + 1 => by
    unfold sumB
    rw [sumB_split p q n]
    cases p n <;> cases q n <;> simp <;> omega
theorem sumB_all : ∀ n, sumB (fun _ => true) n = 2 ^ n - 1
  | 0 => rfl
  | n + 1 => by
    unfold sumB
    rw [sumB_all n, Nat.pow_succ]
    have := Nat.two_pow_pos n
    simp
    omega
theorem sumB_zero {p : Nat → Bool} : ∀ {n : Nat}, sumB p n = 0 ↔ ∀ k, k < n → p k = false
  | 0 => by simp [sumB]
  | n + 1 => by
    unfold sumB
    have hp := Nat.two_pow_pos n
    constructor
    · intro h k hk
      have h1 : sumB p n = 0 := by omega
      have h2 : (if p n = true then 2 ^ n else 0) = 0 := by omega
      by_cases e : k = n
      · subst e
        cases q : p k
        · rfl
        · rw [q] at h2
          simp at h2
      · exact sumB_zero.mp h1 k (by omega)
    · intro h
      rw [sumB_zero.mpr fun k hk => h k (by omega), h n (by omega)]
      rfl
theorem sumB_full {p : Nat → Bool} {n : Nat} : sumB p n = 2 ^ n - 1 ↔ ∀ k, k < n → p k = true := by
  have h1 := sumB_split (fun _ => true) p n
  rw [sumB_all] at h1
  simp only [Bool.true_and] at h1
  have e : (sumB (fun k => p k) n) = sumB p n := rfl
  constructor
  · intro h k hk
    have h2 : sumB (fun k => !p k) n = 0 := by omega
    have := sumB_zero.mp h2 k hk
    simpa using this
  · intro h
    have h2 : sumB (fun k => !p k) n = 0 := sumB_zero.mpr fun k hk => by simp [h k hk]
    omega
theorem and_sum {a b n : Nat} (ha : a < 2 ^ n) : a &&& b = sumB (fun k => a.testBit k && b.testBit k) n := by
  rw [← sumB_of (Nat.lt_of_le_of_lt (Nat.and_le_left (n := a) (m := b)) ha)]
  exact sumB_congr fun k _ => Nat.testBit_and ..
theorem or_sum {a b n : Nat} (ha : a < 2 ^ n) (hb : b < 2 ^ n) : a ||| b = sumB (fun k => a.testBit k || b.testBit k) n := by
  rw [← sumB_of (Nat.or_lt_two_pow ha hb)]
  exact sumB_congr fun k _ => Nat.testBit_or ..
theorem diff_sum {a b n : Nat} (ha : a < 2 ^ n) : nDiff a b = sumB (fun k => a.testBit k && !b.testBit k) n := by
  unfold nDiff
  have h := sumB_split a.testBit b.testBit n
  rw [sumB_of ha, ← and_sum ha] at h
  omega
/-- the members of a lot -/
def mem (n a : Nat) : List Nat := (List.range n).filter a.testBit
theorem pow_sum (p : Nat → Bool) : ∀ n, (((List.range n).filter p).map fun k => 2 ^ k).sum = sumB p n
  | 0 => rfl
  | n + 1 => by
    rw [List.range_succ, List.filter_append, List.map_append, List.sum_append, pow_sum p n, sumB_succ]
    cases h : p n <;> simp [h]
end Py

set_option Elab.async false
set_option linter.all false
set_option maxRecDepth 100000
set_option maxHeartbeats 4000000
namespace Py
open PySem L2

/-! ### defs that many laws share -/
namespace LL
def S_bit (d : Nat) : Sx :=
  S.ret (P.bin T.mod (P.call (fun ts => .of (B.int ts)) (P.cons (P.bin T.fdiv (P.var d 0) (P.bin T.shl (P.c (.int 1)) (P.var d 1))) P.nil)) (P.c (.int 2)))
def f_bit (d : Nat) (ts : List T) : Res T := run 2 (S_bit d) ts
def S_members (d : Nat) : Sx :=
  S.ret (P.lc [2] (S.tName 2) (P.rng1 (P.cons (P.var d 1) P.nil)) (P.tb (P.bin T.eq (P.call (f_bit (d + 1)) (P.cons (P.var d 0) (P.cons (P.var d 2) P.nil))) (P.c (.int 1)))) (P.var d 2))
def f_members (d : Nat) (ts : List T) : Res T := run 3 (S_members d) ts
def S_whole (d : Nat) : Sx :=
  S.ret (P.andV (P.un (T.isi "int") (P.var d 0)) (P.notV (P.un (T.isi "bool") (P.var d 0))))
def f_whole (d : Nat) (ts : List T) : Res T := run 1 (S_whole d) ts
def S_lside (d : Nat) : Sx :=
  S.seq (S.ite (P.tb (P.bin T.eq (P.call (f_bit (d + 1)) (P.cons (P.var d 1) (P.cons (P.c (.int 0)) P.nil))) (P.c (.int 1))))
  (S.ret (P.bin T.sub (P.bin T.sub (P.bin T.shl (P.c (.int 1)) (P.var d 0)) (P.c (.int 1))) (P.var d 1)))
  S.skip)
  (S.ret (P.var d 1))
def f_lside (d : Nat) (ts : List T) : Res T := run 2 (S_lside d) ts
end LL
theorem bit_ev (d a k : Nat) (hk : k ≤ 1000) : LL.f_bit d [.int (a : Int), .int (k : Int)] = .ok (.int ((a.testBit k).toNat : Nat)) := by
  have hs := shl_one (j := (k : Int)) (by omega) (by omega)
  have hp : (0 : Int) < 2 ^ k := Int.pow_pos (by omega)
  have hd : dfit ((2 : Int) ^ k) = true := dfit_of (k + 1) (by
    have e : ((2 : Int) ^ k).natAbs = 2 ^ k := by rw [Int.natAbs_pow]; rfl
    rw [e]
    exact Nat.pow_lt_pow_right (by omega) (by omega)) (by omega) (by omega)
  have e : (a : Int) / 2 ^ k % 2 = (((a.testBit k).toNat : Nat) : Int) := by
    have e1 : (a : Int) / 2 ^ k % 2 = ((a / 2 ^ k % 2 : Nat) : Int) := by simp
    rw [e1, Nat.testBit_eq_decide_div_mod_eq]
    have h := Nat.mod_lt (a / 2 ^ k) (y := 2) (by omega)
    by_cases c : a / 2 ^ k % 2 = 1
    · simp [c]
    · have c0 : a / 2 ^ k % 2 = 0 := by omega
      simp [c0]
  simp [LL.f_bit, run_eq, ent_eq, LL.S_bit, hs, fdiv_int hp hd, mod_int, e]
theorem members_ev (d a n : Nat) (hn : n ≤ 1000) : LL.f_members d [.int (a : Int), .int (n : Int)] = .ok (.lst none ((mem n a).map nT)) := by
  have hr : rfit (n : Int) = true := rfit_ok (by omega) (by omega)
  have hl : (rng 0 n).length ≤ 1000000 := by simp [rng]; omega
  have e0 : rng 0 n = (List.range n).map fun (k : Nat) => T.int (0 + (k : Int)) := rfl
  have hc := turnsC_map (tg := S.tName 2) (b := P.tb (P.bin T.eq (P.call (LL.f_bit (d + 1)) (P.cons (P.var d 0) (P.cons (P.var d 2) P.nil))) (P.c (.int 1)))) (p := P.var d 2) (env := [some (.fz (.int (a : Int))), some (.fz (.int (n : Int))), none]) (g := fun (k : Nat) => T.int (0 + (k : Int))) (c := a.testBit) (f := nT) (List.range n) (fun k hk => by
    have hk' := List.mem_range.mp hk
    refine ⟨_, rfl, ?_, fun _ => ?_⟩
    · have hb := bit_ev (d + 1) a k (by omega)
      simp [hb]
      cases a.testBit k <;> simp
    · simp)
  rw [← e0] at hc
  simp [LL.f_members, run_eq, ent_eq, LL.S_members, hr, lfit_ok hl, hc, mem]
theorem whole_int (d : Nat) (i : Int) : LL.f_whole d [.int i] = .ok (.bl true) := by
  simp [LL.f_whole, run_eq, ent_eq, LL.S_whole, isi_tab]
theorem whole_bl (d : Nat) (b : Bool) : LL.f_whole d [.bl b] = .ok (.bl false) := by
  simp [LL.f_whole, run_eq, ent_eq, LL.S_whole, isi_tab]
theorem whole_str (d : Nat) (b : Str) : LL.f_whole d [.str b] = .ok (.bl false) := by
  simp [LL.f_whole, run_eq, ent_eq, LL.S_whole, isi_tab]
theorem whole_non (d : Nat) : LL.f_whole d [.non] = .ok (.bl false) := by
  simp [LL.f_whole, run_eq, ent_eq, LL.S_whole, isi_tab]
theorem whole_lst (d : Nat) (g : Option Tag) (ts : List T) : LL.f_whole d [.lst g ts] = .ok (.bl false) := by
  simp [LL.f_whole, run_eq, ent_eq, LL.S_whole, isi_tab]
theorem whole_tup (d : Nat) (ts : List T) : LL.f_whole d [.tup ts] = .ok (.bl false) := by
  simp [LL.f_whole, run_eq, ent_eq, LL.S_whole, isi_tab]
/-- one lot of the two that tell a side -/
def sideN (g a : Nat) : Nat := if a.testBit 0 = true then 2 ^ g - 1 - a else a
theorem lside_ev (d g a : Nat) (hg : g ≤ 1000) (ha : a < 2 ^ g) : LL.f_lside d [.int (g : Int), .int (a : Int)] = .ok (.int (sideN g a : Nat)) := by
  have hb := bit_ev (d + 1) a 0 (by omega)
  have hb' : LL.f_bit (d + 1) [.int (a : Int), .int 0] = .ok (.int ((a.testBit 0).toNat : Nat)) := hb
  have hs := shl_one (j := (g : Int)) (by omega) (by omega)
  have hp : ((2 ^ g : Nat) : Int) = 2 ^ g := by simp
  cases c : a.testBit 0 with
  | true =>
    rw [c] at hb'
    have e : (2 : Int) ^ g - 1 - (a : Int) = ((2 ^ g - 1 - a : Nat) : Int) := by omega
    simp [LL.f_lside, run_eq, ent_eq, LL.S_lside, hb', hs, sideN, c, e]
  | false =>
    rw [c] at hb'
    simp [LL.f_lside, run_eq, ent_eq, LL.S_lside, hb', hs, sideN, c]
/-! ### lists of whole numbers as data -/
theorem inV_nat (k : Nat) (l : List Nat) : T.isIn false (nT k) (.lst none (l.map nT)) = some (.bl (l.contains k)) ∧ T.isIn true (nT k) (.lst none (l.map nT)) = some (.bl (!l.contains k)) := by
  have e1 : ∀ l : List Nat, T.fvs (l.map nT) = some (l.map fun (x : Nat) => V.int (x : Int)) := fun l => by
    induction l with
    | nil => rfl
    | cons x l ih =>
      show (match T.fv (nT x), T.fvs (l.map nT) with | some v, some vs => some (v :: vs) | _, _ => none) = _
      rw [ih]
      rfl
  have e2 : inV (.int (k : Int)) (l.map fun (x : Nat) => V.int (x : Int)) = l.contains k := by
    unfold inV
    rw [List.any_map]
    induction l with
    | nil => rfl
    | cons x l ih =>
      rw [List.any_cons, ih, List.contains_cons]
      congr 1
      show ((x : Int) == (k : Int)) = (k == x)
      by_cases h : k = x
      · subst h
        rw [beq_self_eq_true, beq_self_eq_true]
      · have h2 : ¬ (x : Int) = (k : Int) := by omega
        rw [beq_eq_false_iff_ne.mpr h2, beq_eq_false_iff_ne.mpr h]
  constructor
  · simp only [T.isIn, T.fv, T.items, e1, e2, Bool.false_eq_true, if_false]
  · simp only [T.isIn, T.fv, T.items, e1, e2, if_true]
theorem sum_nat (l : List Nat) (g : Option Tag) : B.sum [.lst g (l.map nT)] = some (.int (l.sum : Nat)) := by
  have e1 : ∀ l : List Nat, B.nums (l.map nT) = some (l.map fun (x : Nat) => (x : Int)) := fun l => by
    induction l with
    | nil => rfl
    | cons x l ih =>
      show (match B.nums (l.map nT) with | some m => some ((x : Int) :: m) | none => none) = _
      rw [ih]
      rfl
  have e2 : (l.map fun (x : Nat) => (x : Int)).sum = ((l.sum : Nat) : Int) := by
    induction l with
    | nil => rfl
    | cons x l ih => simp [ih]
  show (match B.nums (l.map nT) with | some m => some (T.int m.sum) | none => none) = _
  rw [e1]
  show some (T.int _) = _
  rw [e2]
/-- two lists of whole numbers compared -/
theorem pds_nat (l : List Nat) : T.pds (l.map nT) = some (l.map fun (x : Nat) => PyData.int (x : Int)) := by
  induction l with
  | nil => rfl
  | cons x l ih =>
    show (match T.pd (nT x), T.pds (l.map nT) with | some d, some ds => some (d :: ds) | _, _ => none) = _
    rw [ih]
    rfl
theorem shaped_nat (l : List Nat) : SeqAt.shaped (.list (l.map fun (x : Nat) => PyData.int (x : Int))) = true := by
  have e1 : ∀ l : List Nat, PyData.canLayAll0 (l.map fun (x : Nat) => PyData.int (x : Int)) = true := fun l => by
    induction l with
    | nil => rfl
    | cons x l ih =>
      show (true && PyData.canLayAll0 (l.map fun (x : Nat) => PyData.int (x : Int))) = true
      rw [ih]
      rfl
  have e2 : ∀ l : List Nat, PyData.depthAll (l.map fun (x : Nat) => PyData.int (x : Int)) = 0 := fun l => by
    induction l with
    | nil => rfl
    | cons x l ih =>
      show max 0 (PyData.depthAll (l.map fun (x : Nat) => PyData.int (x : Int))) = 0
      rw [ih]
      rfl
  show (PyData.canLayAll0 (l.map fun (x : Nat) => PyData.int (x : Int)) && decide (PyData.depthAll (l.map fun (x : Nat) => PyData.int (x : Int)) + 1 ≤ 64)) = true
  rw [e1, e2]
  rfl
theorem eqv_nat (l m : List Nat) : PyData.eqvAll (l.map fun (x : Nat) => PyData.int (x : Int)) (m.map fun (x : Nat) => PyData.int (x : Int)) = (l == m) := by
  induction l generalizing m with
  | nil => cases m <;> rfl
  | cons x l ih =>
    cases m with
    | nil => rfl
    | cons y m =>
      show (((x : Int) == (y : Int)) && PyData.eqvAll _ _) = _
      rw [ih]
      show _ = ((x == y) && (l == m))
      congr 1
      by_cases h : x = y
      · subst h
        rw [beq_self_eq_true, beq_self_eq_true]
      · have h2 : ¬ (x : Int) = (y : Int) := by omega
        rw [beq_eq_false_iff_ne.mpr h2, beq_eq_false_iff_ne.mpr h]
theorem eq_nats (l m : List Nat) (g g' : Option Tag) : T.eq (.lst g (l.map nT)) (.lst g' (m.map nT)) = some (.bl (l == m)) := by
  show (match (T.pds (l.map nT)).map PyData.list, (T.pds (m.map nT)).map PyData.list with
    | some d, some e => if SeqAt.shaped d && SeqAt.shaped e then some (T.bl (PyData.eqv d e)) else none
    | _, _ => none) = _
  rw [pds_nat, pds_nat]
  show (if (SeqAt.shaped (.list _) && SeqAt.shaped (.list _)) = true then some (T.bl (PyData.eqvAll _ _)) else none) = _
  rw [shaped_nat, shaped_nat, eqv_nat]
  rfl
end Py

set_option Elab.async false
set_option linter.all false
set_option maxRecDepth 100000
set_option maxHeartbeats 4000000
namespace Py
open PySem L2

/-! ### what is wanted of a statement's end -/
structure Wq where
  nx : Fv → Prop := fun _ => False
  rt : T → Prop := fun _ => False
  br : Fv → Prop := fun _ => False
  ct : Fv → Prop := fun _ => False
  er : Exn → Fv → Prop := fun _ _ => False
def sat0 (Q : Wq) : RS → Prop
  | .nx e => Q.nx e
  | .rt t => Q.rt t
  | .br e => Q.br e
  | .ct e => Q.ct e
  | .er x e => Q.er x e
  | .stuck => False
/-- (a structure: nothing unfolds it by itself) -/
structure sat (Q : Wq) (r : RS) : Prop where
  of :: h : sat0 Q r
theorem sat_eq {Q : Wq} {r : RS} : sat Q r = sat0 Q r := propext ⟨fun z => z.h, fun z => ⟨z⟩⟩
section
variable {Q : Wq} {r : RS} {u s body : Sx} {env : Fv} {t : T} {x : Exn} {tg : T → Fv → Option Fv} {c : Prop} {α : Type}
@[simp] theorem sat_nx : sat Q (.nx env) = Q.nx env := sat_eq
@[simp] theorem sat_rt : sat Q (.rt t) = Q.rt t := sat_eq
@[simp] theorem sat_br : sat Q (.br env) = Q.br env := sat_eq
@[simp] theorem sat_ct : sat Q (.ct env) = Q.ct env := sat_eq
@[simp] theorem sat_er : sat Q (.er x env) = Q.er x env := sat_eq
@[simp] theorem sat_stuck : sat Q .stuck = False := sat_eq
@[simp] theorem sat_k : sat Q (RS.k r u) = sat { Q with nx := fun e => sat Q (u e) } r := by rw [sat_eq, sat_eq]; cases r <;> first | rfl | exact sat_eq.symm
theorem sat_ite [Decidable c] {a b : RS} : sat Q (if c then a else b) = ((c → sat Q a) ∧ (¬ c → sat Q b)) := by
  by_cases h : c
  · rw [if_pos h]
    exact propext ⟨fun z => ⟨fun _ => z, fun n => absurd h n⟩, fun z => z.1 h⟩
  · rw [if_neg h]
    exact propext ⟨fun z => ⟨fun n => absurd n h, fun _ => z⟩, fun z => z.2 h⟩
theorem sat_mono {Q Q' : Wq} (h : sat Q r) (h1 : ∀ e, Q.nx e → Q'.nx e) (h2 : ∀ t, Q.rt t → Q'.rt t) (h3 : ∀ e, Q.br e → Q'.br e) (h4 : ∀ e, Q.ct e → Q'.ct e) (h5 : ∀ x e, Q.er x e → Q'.er x e) : sat Q' r := by
  rw [sat_eq] at h ⊢
  cases r with
  | nx e => exact h1 _ h
  | rt e => exact h2 _ h
  | br e => exact h3 _ h
  | ct e => exact h4 _ h
  | er x e => exact h5 _ _ h
  | stuck => exact h
/-- only what is next is wanted, and it is kept out of sight -/
theorem sat_hide {I : Fv → Prop} (hI : ∀ e, I e → Q.nx e) (h : ∀ J : Fv → Prop, (∀ e, I e → J e) → sat { nx := J } r) : sat Q r :=
  sat_mono (h I fun _ z => z) hI (fun _ z => z.elim) (fun _ z => z.elim) (fun _ z => z.elim) (fun _ _ z => z.elim)
/-- a for by its invariant -/
theorem sat_turns (I : Nat → Fv → Prop) : ∀ {xs : List T} {k0 : Nat} {env : Fv}, I k0 env →
    (∀ k x e, xs[k]? = some x → I (k0 + k) e → ∃ e1, tg x e = some e1 ∧ sat { nx := I (k0 + k + 1), ct := I (k0 + k + 1), br := Q.nx, rt := Q.rt, er := Q.er } (body e1)) →
    (∀ e, I (k0 + xs.length) e → Q.nx e) → sat Q (S.turns tg body xs env)
  | [], k0, env, h0, _, hq => ⟨hq env h0⟩
  | x :: xs, k0, env, h0, hs, hq => by
    obtain ⟨e1, h1, h2⟩ := hs 0 x env rfl h0
    have e0 : S.turns tg body (x :: xs) env = (match tg x env with
      | some env1 => (match body env1 with
        | .nx env => S.turns tg body xs env
        | .ct env => S.turns tg body xs env
        | .br env => .nx env
        | r => r)
      | none => .stuck) := nrfl rfl
    rw [e0, h1]
    have rec_ : ∀ e2, I (k0 + 0 + 1) e2 → sat Q (S.turns tg body xs e2) := fun e2 h3 => by
      refine sat_turns I (k0 := k0 + 1) h3 (fun k y e hk hI => ?_) (fun e hI => hq e ?_)
      · have := hs (k + 1) y e hk (by rw [show k0 + (k + 1) = k0 + 1 + k by omega]; exact hI)
        rw [show k0 + (k + 1) + 1 = k0 + 1 + k + 1 by omega] at this
        exact this
      · rw [List.length_cons, show k0 + (xs.length + 1) = k0 + 1 + xs.length by omega]; exact hI
    rw [sat_eq] at h2
    cases z : body e1 with
    | nx e2 => rw [z] at h2; simp only [z]; exact rec_ e2 h2
    | ct e2 => rw [z] at h2; simp only [z]; exact rec_ e2 h2
    | br e2 => rw [z] at h2; simp only [z]; exact ⟨h2⟩
    | rt t => rw [z] at h2; simp only [z]; exact ⟨h2⟩
    | er x e => rw [z] at h2; simp only [z]; exact ⟨h2⟩
    | stuck => rw [z] at h2; exact h2.elim
theorem sat_for (I : Nat → Fv → Prop) {xs : List T} {env : Fv} (h0 : I 0 env)
    (hs : ∀ k x e, xs[k]? = some x → I k e → ∃ e1, tg x e = some e1 ∧ sat { nx := I (k + 1), ct := I (k + 1), br := Q.nx, rt := Q.rt, er := Q.er } (body e1))
    (hq : ∀ e, I xs.length e → Q.nx e) : sat Q (S.turns tg body xs env) :=
  sat_turns I (k0 := 0) h0 (fun k x e hk hI => by
    have := hs k x e hk (by rw [Nat.zero_add] at hI; exact hI)
    rw [Nat.zero_add]
    exact this) (fun e hI => hq e (by rw [Nat.zero_add] at hI; exact hI))
/-- over numbers -/
theorem sat_rng (I : Nat → Fv → Prop) {lo : Int} {n : Nat} {env : Fv} (h0 : I 0 env)
    (hs : ∀ k e, k < n → I k e → ∃ e1, tg (.int (lo + (k : Int))) e = some e1 ∧ sat { nx := I (k + 1), ct := I (k + 1), br := Q.nx, rt := Q.rt, er := Q.er } (body e1))
    (hq : ∀ e, I n e → Q.nx e) : sat Q (S.turns tg body (rng lo n) env) :=
  sat_for I h0 (fun k x e hk hI => by
    unfold rng at hk
    rw [List.getElem?_map] at hk
    cases q : (List.range n)[k]? with
    | none => rw [q] at hk; cases hk
    | some j =>
      rw [q] at hk
      cases hk
      obtain ⟨hl, e3⟩ := List.getElem?_eq_some_iff.mp q
      rw [List.length_range] at hl
      rw [List.getElem_range] at e3
      subst e3
      exact hs k e hl hI) (fun e hI => hq e (by
        unfold rng at hI
        rw [List.length_map, List.length_range] at hI
        exact hI))
/-- over numbers from a natural number on -/
theorem sat_rngN (I : Nat → Fv → Prop) {lo : Int} {n : Nat} {env : Fv} (a : Nat) (ha : lo = (a : Int)) (h0 : I 0 env)
    (hs : ∀ k e, k < n → I k e → ∃ e1, tg (nT (a + k)) e = some e1 ∧ sat { nx := I (k + 1), ct := I (k + 1), br := Q.nx, rt := Q.rt, er := Q.er } (body e1))
    (hq : ∀ e, I n e → Q.nx e) : sat Q (S.turns tg body (rng lo n) env) :=
  sat_rng I h0 (fun k e hk hI => by
    have := hs k e hk hI
    have e0 : nT (a + k) = .int (lo + (k : Int)) := by
      rw [ha]
      show T.int ((a + k : Nat) : Int) = _
      rw [Int.natCast_add]
    rw [e0] at this
    exact this) hq
/-- over the trees of a list -/
theorem sat_map {β : Type} {g : β → T} (I : Nat → Fv → Prop) {xs : List β} {env : Fv} (h0 : I 0 env)
    (hs : ∀ k x e, xs[k]? = some x → I k e → ∃ e1, tg (g x) e = some e1 ∧ sat { nx := I (k + 1), ct := I (k + 1), br := Q.nx, rt := Q.rt, er := Q.er } (body e1))
    (hq : ∀ e, I xs.length e → Q.nx e) : sat Q (S.turns tg body (xs.map g) env) :=
  sat_for I h0 (fun k x e hk hI => by
    rw [List.getElem?_map] at hk
    cases q : xs[k]? with
    | none => rw [q] at hk; cases hk
    | some j =>
      rw [q] at hk
      cases hk
      exact hs k j e q hI) (fun e hI => hq e (by rw [List.length_map] at hI; exact hI))
/-- a while by a measure -/
theorem sat_while {b : P.Bx} (I : Nat → Fv → Prop) (h : ∀ n e, I n e → ∃ c, b e = .ok c ∧ if c = true then sat { nx := fun e => ∃ m, m < n ∧ I m e, ct := fun e => ∃ m, m < n ∧ I m e, br := Q.nx, rt := Q.rt, er := Q.er } (body e) else Q.nx e) :
    ∀ (k n : Nat) (env : Fv), n < k → I n env → sat Q (S.while_ b body k env)
  | 0, n, env, hn, _ => absurd hn (Nat.not_lt_zero _)
  | k + 1, n, env, hn, hI => by
    obtain ⟨c, h1, h2⟩ := h n env hI
    have e0 : S.while_ b body (k + 1) env = (b env).thenX env fun b' => if b' = true then (match body env with
      | .nx env => S.while_ b body k env
      | .ct env => S.while_ b body k env
      | .br env => .nx env
      | r => r) else .nx env := rfl
    rw [e0, h1, Res.thenX_ok]
    cases c with
    | false => rw [if_neg Bool.false_ne_true] at h2 ⊢; exact ⟨h2⟩
    | true =>
      rw [if_pos rfl] at h2 ⊢
      rw [sat_eq] at h2
      cases z : body env with
      | nx e2 => rw [z] at h2; obtain ⟨m, hm, hI'⟩ := h2; simp only [z]; exact sat_while I h k m e2 (by omega) hI'
      | ct e2 => rw [z] at h2; obtain ⟨m, hm, hI'⟩ := h2; simp only [z]; exact sat_while I h k m e2 (by omega) hI'
      | br e2 => rw [z] at h2; simp only [z]; exact ⟨h2⟩
      | rt t => rw [z] at h2; simp only [z]; exact ⟨h2⟩
      | er x e => rw [z] at h2; simp only [z]; exact ⟨h2⟩
      | stuck => rw [z] at h2; exact h2.elim
end
/-- a def that answers -/
theorem run_ok {n : Nat} {s : Sx} {ts : List T} {Pp : T → Prop} (h : sat { nx := fun _ => Pp .non, rt := Pp } (s (ent n ts))) : ∃ t, run n s ts = .ok t ∧ Pp t := by
  rw [sat_eq] at h
  unfold run
  cases z : s (ent n ts) with
  | nx e => rw [z] at h; exact ⟨_, rfl, h⟩
  | rt t => rw [z] at h; exact ⟨_, rfl, h⟩
  | br e => rw [z] at h; exact h.elim
  | ct e => rw [z] at h; exact h.elim
  | er x e => rw [z] at h; exact h.elim
  | stuck => rw [z] at h; exact h.elim
theorem run_is {n : Nat} {s : Sx} {ts : List T} {r : T} (h : sat { nx := fun _ => r = .non, rt := fun t => t = r } (s (ent n ts))) : run n s ts = .ok r := by
  rw [sat_eq] at h
  unfold run
  cases z : s (ent n ts) with
  | nx e => rw [z] at h; rw [show r = .non from h]; rfl
  | rt t => rw [z] at h; rw [show t = r from h]; rfl
  | br e => rw [z] at h; exact h.elim
  | ct e => rw [z] at h; exact h.elim
  | er x e => rw [z] at h; exact h.elim
  | stuck => rw [z] at h; exact h.elim
/-- .. that may raise -/
theorem run_any {n : Nat} {s : Sx} {ts : List T} {Pp : T → Prop} {Ep : Exn → Prop} (h : sat { nx := fun _ => Pp .non, rt := Pp, er := fun x _ => Ep x } (s (ent n ts))) : (∃ t, run n s ts = .ok t ∧ Pp t) ∨ ∃ x, run n s ts = .er x ∧ Ep x := by
  rw [sat_eq] at h
  unfold run
  cases z : s (ent n ts) with
  | nx e => rw [z] at h; exact .inl ⟨_, rfl, h⟩
  | rt t => rw [z] at h; exact .inl ⟨_, rfl, h⟩
  | br e => rw [z] at h; exact h.elim
  | ct e => rw [z] at h; exact h.elim
  | er x e => rw [z] at h; exact .inr ⟨_, rfl, h⟩
  | stuck => rw [z] at h; exact h.elim
theorem runI_ok {n c : Nat} {s : Sx} {ts : List T} {Pp : Fld → Prop} (h : sat { nx := fun e => ∃ ns us, e[0]? = some (some (Sl.oi c ns us)) ∧ Pp (ns, us) } (s (entI n c ts))) : ∃ r, runI n c s ts = .ok r ∧ Pp r := by
  rw [sat_eq] at h
  unfold runI
  cases z : s (entI n c ts) with
  | nx e =>
    rw [z] at h
    obtain ⟨ns, us, h1, h2⟩ := h
    refine ⟨_, ?_, h2⟩
    simp only [finI, h1, if_true]
  | rt t => rw [z] at h; exact h.elim
  | br e => rw [z] at h; exact h.elim
  | ct e => rw [z] at h; exact h.elim
  | er x e => rw [z] at h; exact h.elim
  | stuck => rw [z] at h; exact h.elim
theorem entI_eq {n c : Nat} {ts : List T} : entI n c ts = some (.oi c [] []) :: (ts.map (fun t => some (.fz t)) ++ List.replicate (n - 1 - ts.length) none) := nrfl rfl
theorem atI_map {β : Type} {g : β → T} {l : List β} {k : Nat} (h : k < l.length) : atI (l.map g) (k : Int) = some (g l[k]) := by
  rw [atI_nat (by rw [List.length_map]; exact h), List.getElem?_map, List.getElem?_eq_getElem h]
  rfl
theorem atI_mapI {β : Type} {g : β → T} {l : List β} {z : Int} (k : Nat) (hz : z = (k : Int)) (h : k < l.length) : atI (l.map g) z = some (g l[k]) := by
  rw [hz]
  exact atI_map h
/-! ### evaluation of the further combinators -/
section
variable {α : Type} {d i c : Nat} {env : Fv} {t : T} {ts us : List T} {p q : P.Ex1} {a : P.Ax} {f : Str} {ns : List Str} {g : Option Tag}
@[simp] theorem ev_asgY : S.asgY i p env = (p env).thenY env fun t => if t.fr = true ∧ i < env.length then .nx (env.set i (some (.fz t))) else .stuck := nrfl rfl
@[simp] theorem ev_retY : S.retY p env = (p env).thenY env fun t => if t.fr = true then .rt t else .stuck := nrfl rfl
@[simp] theorem ev_exprY : S.exprY p env = (p env).thenY env fun _ => .nx env := nrfl rfl
@[simp] theorem ev_iteY {b : P.Bx} {s u : Sx} : S.iteY b s u env = (b env).thenY env fun c => if c = true then s env else u env := nrfl rfl
@[simp] theorem thenY_ite {β : Type} {z : Prop} [Decidable z] {x y : Res β} {h : β → RS} : Res.thenY (if z then x else y) env h = if z then Res.thenY x env h else Res.thenY y env h := by split <;> rfl
def appYK (i : Nat) (m : Res T) (env : Fv) : Option (Option Sl) → RS
  | some (some (.ol ts)) => m.thenY env fun t => if t.fr = true ∧ ts.length < sizeLine then .nx (env.set i (some (.ol (ts ++ [t])))) else .stuck
  | _ => .stuck
@[simp] theorem ev_appY : S.appY i p env = appYK i (p env) env env[i]? := by
  unfold S.appY appYK
  rfl
@[simp] theorem appYK_ol {m : Res T} : appYK i m env (some (some (.ol ts))) = m.thenY env fun t => if t.fr = true ∧ ts.length < sizeLine then .nx (env.set i (some (.ol (ts ++ [t])))) else .stuck := nrfl rfl
@[simp] theorem fr_int {z : Int} : T.fr (.int z) = true := nrfl rfl
@[simp] theorem fr_bl {z : Bool} : T.fr (.bl z) = true := nrfl rfl
@[simp] theorem fr_str {z : Str} : T.fr (.str z) = true := nrfl rfl
@[simp] theorem fr_non : T.fr .non = true := nrfl rfl
@[simp] theorem fr_lst : T.fr (.lst none ts) = T.frs ts := nrfl (by simp [T.fr])
@[simp] theorem fr_tup : T.fr (.tup ts) = T.frs ts := nrfl (by simp [T.fr])
@[simp] theorem fr_ins {cc : Nat} : T.fr (.ins none cc ns ts) = T.frs ts := nrfl (by simp [T.fr])
@[simp] theorem frs_nil : T.frs [] = true := nrfl rfl
@[simp] theorem frs_cons : T.frs (t :: ts) = (t.fr && T.frs ts) := nrfl (by simp [T.frs])
theorem frs_map {β : Type} {g : β → T} (h : ∀ x, (g x).fr = true) : ∀ l : List β, T.frs (l.map g) = true
  | [] => by simp
  | x :: l => by rw [List.map_cons, frs_cons, h, frs_map h l]; rfl
@[simp] theorem frs_nats {l : List Nat} : T.frs (l.map nT) = true := frs_map (fun _ => by simp) l
@[simp] theorem frs_ints {l : List Int} : T.frs (l.map T.int) = true := frs_map (fun _ => by simp) l
def opK : T → Res (Option Int)
  | .int i => .ok (some i)
  | _ => .stuck
@[simp] theorem opK_int {z : Int} : opK (.int z) = .ok (some z) := nrfl rfl
@[simp] theorem ev_op0 : P.opart none env = .ok none := nrfl rfl
@[simp] theorem ev_op1 : P.opart (some p) env = (p env).bind opK := nrfl rfl
@[simp] theorem ev_cut {lo hi : Option P.Ex1} : P.cut p lo hi env = (p env).bind fun t => (P.opart lo env).bind fun l => (P.opart hi env).bind fun u => .of (t.cut l u) := nrfl rfl
@[simp] theorem ev_cutA {lo hi : Option P.Ex1} : P.cutA p lo hi env = (p env).bind fun t => (P.opart lo env).bind fun l => (P.opart hi env).bind fun u => .of (t.cutA l u) := nrfl rfl
theorem cutA_lst {lo hi : Option Int} : T.cutA (.lst g ts) lo hi = T.cut (.lst g ts) lo hi := rfl
@[simp] theorem isk_non {tab : TyK → Option Bool} : T.isk tab .non = (tab (.inl "NoneType")).map .bl := nrfl rfl
@[simp] theorem isk_bl {tab : TyK → Option Bool} {b : Bool} : T.isk tab (.bl b) = (tab (.inl "bool")).map .bl := nrfl rfl
@[simp] theorem isk_int {tab : TyK → Option Bool} {z : Int} : T.isk tab (.int z) = (tab (.inl "int")).map .bl := nrfl rfl
@[simp] theorem isk_str {tab : TyK → Option Bool} {z : Str} : T.isk tab (.str z) = (tab (.inl "str")).map .bl := nrfl rfl
@[simp] theorem isk_lst {tab : TyK → Option Bool} : T.isk tab (.lst g ts) = (tab (.inl "list")).map .bl := nrfl rfl
@[simp] theorem isk_tup {tab : TyK → Option Bool} : T.isk tab (.tup ts) = (tab (.inl "tuple")).map .bl := nrfl rfl
@[simp] theorem isk_ins {tab : TyK → Option Bool} {cc : Nat} : T.isk tab (.ins g cc ns ts) = (tab (.inr cc)).map .bl := nrfl rfl
def fsetK (c i : Nat) (f : Str) (t : T) (env : Fv) : Option (Option Sl) → RS
  | some (some (.oi c' ns ts)) => if c' = c ∧ ns.contains f = false ∧ ns.length < 1000 then .nx (env.set i (some (.oi c (ns ++ [f]) (ts ++ [t])))) else .stuck
  | _ => .stuck
@[simp] theorem ev_fset : S.fset c i f p env = (p (hide env)).then_ env fun t => fsetK c i f t env env[i]? := by
  unfold S.fset fsetK
  rfl
@[simp] theorem fsetK_oi {c' : Nat} : fsetK c i f t env (some (some (.oi c' ns ts))) = if c' = c ∧ ns.contains f = false ∧ ns.length < 1000 then .nx (env.set i (some (.oi c (ns ++ [f]) (ts ++ [t])))) else .stuck := nrfl rfl
@[simp] theorem frzK_oi {s : Sx} {cc : Nat} : frzK i s env (some (some (.oi cc ns ts))) = s (env.set i (some (.fz (.ins none cc ns ts)))) := nrfl rfl
@[simp] theorem ev_make {h : List T → Res Fld} : P.make c h a env = (a env).bind fun ts => (h ts).bind fun r => .ok (.ins none c r.1 r.2) := nrfl rfl
@[simp] theorem fld_ins {cs : List Nat} : T.fld cs f (.ins g c ns ts) = if cs.contains c = true then (ns.zip ts).lookup f else none := nrfl rfl
@[simp] theorem B_tuple_lst : B.tuple [.lst g ts] = some (.tup ts) := nrfl rfl
@[simp] theorem B_tuple_tup : B.tuple [.tup ts] = some (.tup ts) := nrfl rfl
@[simp] theorem B_list_lst : B.list [.lst g ts] = some (.lst none ts) := nrfl rfl
@[simp] theorem B_list_tup : B.list [.tup ts] = some (.lst none ts) := nrfl rfl
def setXK (i : Nat) (k : P.Ex1) (p : Res T) (env : Fv) : Option (Option Sl) → RS
  | some (some (.ol ts)) => p.thenX env fun t => (k env).thenX env fun j => (match j with
    | .int z => (match ixN ts.length z with
      | some m => if flat t = true then .nx (env.set i (some (.ol (ts.set m t)))) else .stuck
      | none => .stuck)
    | _ => .stuck)
  | _ => .stuck
@[simp] theorem ev_setX : S.setX i q p env = setXK i q (p env) env env[i]? := by
  unfold S.setX setXK
  rfl
def setXJ (i : Nat) (t : T) (env : Fv) (ts : List T) : T → RS
  | .int z => (match ixN ts.length z with
      | some m => if flat t = true then .nx (env.set i (some (.ol (ts.set m t)))) else .stuck
      | none => .stuck)
  | _ => .stuck
@[simp] theorem setXK_ol {r : Res T} : setXK i q r env (some (some (.ol ts))) = r.thenX env fun t => (q env).thenX env fun j => setXJ i t env ts j := nrfl rfl
theorem setXJ_nat {k : Nat} (h : k < ts.length) (hf : flat t = true) : setXJ i t env ts (.int (k : Int)) = .nx (env.set i (some (.ol (ts.set k t)))) := by
  unfold setXJ
  simp only [ixN_nat h, hf, if_true]
end
end Py
namespace Py
open PySem L2
/-! ### sorted natural numbers -/
def srt (l : List Nat) : List Nat := l.mergeSort (fun a b => decide (a ≤ b))
theorem srt_perm (l : List Nat) : (srt l).Perm l := List.mergeSort_perm l _
theorem srt_pw (l : List Nat) : (srt l).Pairwise (· ≤ ·) := by
  have h := List.pairwise_mergeSort (le := fun a b : Nat => decide (a ≤ b)) (fun a b c h1 h2 => by simp at *; omega) (fun a b => by simp; omega) l
  exact h.imp fun h => of_decide_eq_true h
theorem srt_unique {l m : List Nat} (hp : m.Perm l) (hs : m.Pairwise (· ≤ ·)) : m = srt l :=
  List.Perm.eq_of_pairwise (fun a b _ _ h1 h2 => Nat.le_antisymm h1 h2) hs (srt_pw l) (hp.trans (srt_perm l).symm)
theorem srt_len (l : List Nat) : (srt l).length = l.length := (srt_perm l).length_eq
theorem mem_srt {l : List Nat} {a : Nat} : a ∈ srt l ↔ a ∈ l := (srt_perm l).mem_iff
theorem nums_nats (l : List Nat) : B.nums (l.map nT) = some (l.map fun (x : Nat) => (x : Int)) := by
  induction l with
  | nil => rfl
  | cons x l ih =>
    show (match B.nums (l.map nT) with | some m => some ((x : Int) :: m) | none => none) = _
    rw [ih]
    rfl
theorem sorted_nats (l : List Nat) (g : Option Tag) : B.sorted [.lst g (l.map nT)] = some (.lst none ((srt l).map nT)) := by
  show (match B.nums (l.map nT) with | some l => some (T.lst none ((isort l).map T.int)) | none => none) = _
  rw [nums_nats]
  have e : isort (l.map fun (x : Nat) => (x : Int)) = (srt l).map fun (x : Nat) => (x : Int) := by
    refine (isort_unique ((srt_perm l).map _) ?_).symm
    rw [List.pairwise_map]
    exact (srt_pw l).imp fun h => by omega
  show some (T.lst none ((isort (l.map fun (x : Nat) => (x : Int))).map T.int)) = _
  rw [e, List.map_map]
  rfl
/-- digits as natural numbers -/
def DigN : List Nat → List Nat → Prop
  | [], [] => True
  | x :: xs, s :: ss => x < s ∧ DigN xs ss
  | _, _ => False
theorem digN_of : ∀ {xs : List Int} {sz : List Nat}, Digs xs (sz.map fun (s : Nat) => (s : Int)) → ∃ ys : List Nat, xs = ys.map (fun (y : Nat) => (y : Int)) ∧ DigN ys sz
  | [], [], _ => ⟨[], rfl, trivial⟩
  | [], _ :: _, h => h.elim
  | _ :: _, [], h => h.elim
  | x :: xs, s :: sz, h => by
    obtain ⟨⟨h1, h2⟩, h3⟩ := (show (0 ≤ x ∧ x < (s : Int)) ∧ Digs xs (sz.map fun (s : Nat) => (s : Int)) from h)
    obtain ⟨ys, rfl, h4⟩ := digN_of h3
    exact ⟨x.toNat :: ys, by rw [List.map_cons, Int.toNat_of_nonneg h1], by omega, h4⟩
theorem DigN.length : ∀ {xs ss : List Nat}, DigN xs ss → xs.length = ss.length
  | [], [], _ => rfl
  | _ :: _, _ :: _, h => by rw [List.length_cons, List.length_cons, DigN.length h.2]
theorem DigN.get : ∀ {xs ss : List Nat} {k : Nat} {x s : Nat}, DigN xs ss → xs[k]? = some x → ss[k]? = some s → x < s
  | [], [], _, _, _, _, h, _ => by simp at h
  | _ :: _, _ :: _, 0, _, _, h, h1, h2 => by cases h1; cases h2; exact h.1
  | _ :: _, _ :: _, k + 1, _, _, h, h1, h2 => DigN.get (k := k) h.2 h1 h2
theorem digitsN_ev (d : Nat) (c : Int) (g : Option Tag) (sz : List Nat) (hs : ∀ s ∈ sz, 0 < s ∧ s < 2 ^ 100) (hl : sz.length ≤ 1000) : ∃ xs : List Nat, DigN xs sz ∧ run 8 (LL.S_digits d) [.int c, .lst g (sz.map nT)] = .ok (.lst none (xs.map nT)) := by
  have e1 : sz.map nT = (sz.map fun (s : Nat) => (s : Int)).map T.int := by rw [List.map_map]; rfl
  obtain ⟨xs, h1, h2⟩ := digits_ev d c g (sz.map fun (s : Nat) => (s : Int)) (fun s h => by
    obtain ⟨n, hn, rfl⟩ := List.mem_map.mp h
    obtain ⟨a, b⟩ := hs n hn
    refine ⟨by omega, ?_⟩
    have b2 : n < 2 ^ 1000 := Nat.lt_of_lt_of_le b (Nat.pow_le_pow_right (by omega) (by omega))
    exact_mod_cast b2) (by rw [List.length_map]; exact hl)
  obtain ⟨ys, rfl, h3⟩ := digN_of h1
  refine ⟨ys, h3, ?_⟩
  rw [e1, h2, List.map_map]
  rfl
/-! ### lists made of ranges, taken apart -/
theorem rangeC (d i n : Nat) (env : Fv) (hi : i < env.length) : P.turnsC (S.tName i) P.yes (P.var d i) env (rng 0 n) = .ok ((List.range n).map nT) := by
  have e0 : rng 0 n = (List.range n).map fun (k : Nat) => T.int (0 + (k : Int)) := rfl
  have hc := turnsC_map (tg := S.tName i) (b := P.yes) (p := P.var d i) (env := env) (g := fun (k : Nat) => T.int (0 + (k : Int))) (c := fun _ => true) (f := nT) (List.range n) (fun k _ => by
    refine ⟨env.set i (some (.fz (.int (0 + (k : Int))))), ?_, rfl, fun _ => ?_⟩
    · rw [ev_tName, if_pos hi]
    · have e2 : (env.set i (some (Sl.fz (.int (0 + (k : Int))))))[i]? = some (some (.fz (.int (0 + (k : Int))))) := List.getElem?_set_self hi
      simp only [ev_var, ev_rd, e2, slT_fz, Res.of_some]
      rw [Int.zero_add])
  rw [e0, hc, List.filter_eq_self.mpr (fun _ _ => rfl)]
theorem rng_len (lo : Int) (n : Nat) : (rng lo n).length = n := by unfold rng; rw [List.length_map, List.length_range]
theorem eraseIdx_map' {α β : Type} (f : α → β) : ∀ (l : List α) (m : Nat), (l.map f).eraseIdx m = (l.eraseIdx m).map f
  | [], _ => rfl
  | x :: l, 0 => rfl
  | x :: l, m + 1 => by rw [List.map_cons, List.eraseIdx_cons_succ, List.eraseIdx_cons_succ, List.map_cons, eraseIdx_map' f l m]
theorem popApp_ev {i j m : Nat} {env : Fv} {k : P.Ex1} {us ts : List Nat} (hj : env[j]? = some (some (.ol (us.map nT)))) (hi : env[i]? = some (some (.ol (ts.map nT)))) (hk : k env = .ok (nT m)) (hm : m < ts.length) (hl : ts.length ≤ 1000000) (hu : us.length ≤ 100000) (hij : i ≠ j) :
    S.popApp i j k env = .nx ((env.set i (some (.ol ((ts.eraseIdx m).map nT)))).set j (some (.ol ((us ++ [ts[m]]).map nT)))) := by
  have h1 : ixN (ts.map nT).length (m : Int) = some m := ixN_nat (by rw [List.length_map]; exact hm)
  have h2 : (ts.map nT)[m]? = some (nT ts[m]) := by rw [List.getElem?_map, List.getElem?_eq_getElem hm]; rfl
  have h3 : lfit (ts.map nT).length = true ∧ (us.map nT).length < sizeLine ∧ i ≠ j := by
    rw [List.length_map, List.length_map]
    exact ⟨lfit_ok hl, Nat.lt_of_le_of_lt hu (by decide), hij⟩
  have h4 : (ts.map nT).eraseIdx m = (ts.eraseIdx m).map nT := eraseIdx_map' _ _ _
  unfold S.popApp
  simp only [hj, hi, hk, Res.thenX_ok, h1, h2, if_pos h3, h4, List.map_append, List.map_cons, List.map_nil]
theorem eraseIdx_perm {α : Type} : ∀ {l : List α} {m : Nat} (h : m < l.length), (l[m] :: l.eraseIdx m).Perm l
  | x :: l, 0, _ => .refl _
  | x :: l, m + 1, h => by
    have := eraseIdx_perm (l := l) (m := m) (by simpa using h)
    rw [List.eraseIdx_cons_succ, List.getElem_cons_succ]
    exact (List.Perm.swap _ _ _).trans (this.cons x)
theorem cut_hi (l : List Nat) (g : Option Tag) (k : Nat) : T.cut (.lst g (l.map nT)) none (some (k : Int)) = some (.lst none ((l.take k).map nT)) := by
  show some (T.lst none (((l.map nT).drop (HT.sIx (l.map nT).length 0 none)).take (HT.sIx (l.map nT).length (l.map nT).length (some (k : Int)) - HT.sIx (l.map nT).length 0 none))) = _
  rw [HT.sIx_none, HT.sIx_nat, List.drop_zero, Nat.sub_zero, List.length_map, ← List.map_take]
  congr 3
  rcases Nat.le_total k l.length with h | h
  · rw [Nat.min_eq_left h]
  · rw [Nat.min_eq_right h, List.take_of_length_le (Nat.le_refl _), List.take_of_length_le h]
theorem cut_lo (l : List Nat) (g : Option Tag) (k : Nat) : T.cut (.lst g (l.map nT)) (some (k : Int)) none = some (.lst none ((l.drop k).map nT)) := by
  show some (T.lst none (((l.map nT).drop (HT.sIx (l.map nT).length 0 (some (k : Int)))).take (HT.sIx (l.map nT).length (l.map nT).length none - HT.sIx (l.map nT).length 0 (some (k : Int))))) = _
  rw [HT.sIx_none, HT.sIx_nat, List.length_map]
  rw [List.take_of_length_le (by rw [List.length_drop, List.length_map]; omega), ← List.map_drop]
  congr 3
  rcases Nat.le_total k l.length with h | h
  · rw [Nat.min_eq_left h]
  · rw [Nat.min_eq_right h, List.drop_of_length_le (Nat.le_refl _), List.drop_of_length_le h]
/-- two ascending lists of the same members -/
theorem asc_unique {l m : List Nat} (hl : l.Pairwise (· < ·)) (hm : m.Pairwise (· < ·)) (h : ∀ a, a ∈ l ↔ a ∈ m) : l = m := by
  have nl : l.Nodup := hl.imp fun h => Nat.ne_of_lt h
  have nm : m.Nodup := hm.imp fun h => Nat.ne_of_lt h
  exact List.Perm.eq_of_pairwise (fun a b _ _ h1 h2 => absurd h1 (Nat.lt_asymm h2)) hl hm ((List.perm_ext_iff_of_nodup nl nm).mpr h)
theorem srt_asc {l : List Nat} (h : l.Nodup) : (srt l).Pairwise (· < ·) := by
  have h1 := srt_pw l
  have h2 : (srt l).Nodup := (srt_perm l).nodup_iff.mpr h
  exact (h1.and h2).imp fun ⟨a, b⟩ => Nat.lt_of_le_of_ne a b
/-- the places where an ascending list grows -/
def ddB (l : List Nat) (k : Nat) : Bool := decide (k = 0) || !decide (l.getD k 0 = l.getD (k - 1) 0)
def dd (l : List Nat) : List Nat := ((List.range l.length).filter (ddB l)).map fun k => l.getD k 0
theorem getD_le {l : List Nat} (h : l.Pairwise (· ≤ ·)) {i j : Nat} (hij : i ≤ j) (hj : j < l.length) : l.getD i 0 ≤ l.getD j 0 := by
  rw [List.getD_eq_getElem?_getD, List.getD_eq_getElem?_getD, List.getElem?_eq_getElem hj, List.getElem?_eq_getElem (by omega)]
  rcases Nat.lt_or_eq_of_le hij with z | z
  · exact List.pairwise_iff_getElem.mp h i j (by omega) hj z
  · subst z; exact Nat.le_refl _
theorem dd_asc {l : List Nat} (h : l.Pairwise (· ≤ ·)) : (dd l).Pairwise (· < ·) := by
  unfold dd
  rw [List.pairwise_map, List.pairwise_filter]
  refine List.pairwise_lt_range.imp_of_mem fun {i j} hi hj hij hbi hbj => ?_
  have hj' := List.mem_range.mp hj
  unfold ddB at hbj
  have h0 : decide (j = 0) = false := decide_eq_false (by omega)
  rw [h0, Bool.false_or, Bool.not_eq_true', decide_eq_false_iff_not] at hbj
  have h1 := getD_le h (show i ≤ j - 1 by omega) (by omega)
  have h2 := getD_le h (show j - 1 ≤ j by omega) hj'
  omega
theorem mem_dd {l : List Nat} (h : l.Pairwise (· ≤ ·)) {a : Nat} : a ∈ dd l ↔ a ∈ l := by
  unfold dd
  rw [List.mem_map]
  constructor
  · rintro ⟨k, hk, rfl⟩
    have hk' := List.mem_range.mp (List.mem_filter.mp hk).1
    rw [List.getD_eq_getElem?_getD, List.getElem?_eq_getElem hk']
    exact List.getElem_mem hk'
  · intro ha
    obtain ⟨k, hk, e⟩ := List.mem_iff_getElem.mp ha
    have key : ∀ k, k < l.length → l.getD k 0 = a → ∃ j, j ∈ (List.range l.length).filter (ddB l) ∧ l.getD j 0 = a := by
      intro k
      induction k with
      | zero =>
        intro hk e
        exact ⟨0, List.mem_filter.mpr ⟨List.mem_range.mpr hk, rfl⟩, e⟩
      | succ k ih =>
        intro hk e
        by_cases c : l.getD (k + 1) 0 = l.getD k 0
        · exact ih (by omega) (by rw [← c]; exact e)
        · refine ⟨k + 1, List.mem_filter.mpr ⟨List.mem_range.mpr hk, ?_⟩, e⟩
          unfold ddB
          rw [Nat.add_sub_cancel, decide_eq_false c]
          simp
    exact key k hk (by rw [List.getD_eq_getElem?_getD, List.getElem?_eq_getElem hk]; exact e)
/-- sums over a range -/
def sumR (f : Nat → Nat) (n : Nat) : Nat := ((List.range n).map f).sum
theorem sumR_succ (f : Nat → Nat) (n : Nat) : sumR f (n + 1) = sumR f n + f n := by
  unfold sumR
  rw [List.range_succ, List.map_append, List.sum_append]
  simp
theorem sumR_congr {f h : Nat → Nat} : ∀ {n : Nat}, (∀ i, i < n → f i = h i) → sumR f n = sumR h n
  | 0, _ => rfl
  | n + 1, e => by rw [sumR_succ, sumR_succ, sumR_congr fun i hi => e i (by omega), e n (by omega)]
theorem sumR_le {f h : Nat → Nat} : ∀ {n : Nat}, (∀ i, i < n → f i ≤ h i) → sumR f n ≤ sumR h n
  | 0, _ => Nat.le_refl _
  | n + 1, e => by
    rw [sumR_succ, sumR_succ]
    have := sumR_le (f := f) (h := h) (n := n) fun i hi => e i (by omega)
    have := e n (by omega)
    omega
theorem sumR_ge {f : Nat → Nat} : ∀ {n k : Nat}, k < n → f k ≤ sumR f n
  | 0, _, h => absurd h (Nat.not_lt_zero _)
  | n + 1, k, h => by
    rw [sumR_succ]
    rcases Nat.lt_or_eq_of_le (Nat.le_of_lt_succ h) with z | z
    · have := sumR_ge (f := f) z
      omega
    · rw [z]; omega
theorem sumR_less {f h : Nat → Nat} : ∀ {n k : Nat}, (∀ i, i < n → f i ≤ h i) → k < n → f k = 0 → sumR f n + h k ≤ sumR h n
  | 0, _, _, h, _ => absurd h (Nat.not_lt_zero _)
  | n + 1, k, e, hk, z => by
    rw [sumR_succ, sumR_succ]
    rcases Nat.lt_or_eq_of_le (Nat.le_of_lt_succ hk) with y | y
    · have := sumR_less (f := f) (h := h) (n := n) (fun i hi => e i (by omega)) y z
      have := e n (by omega)
      omega
    · have := sumR_le (f := f) (h := h) (n := n) fun i hi => e i (by omega)
      subst y
      omega
theorem sumR_list {l : List Nat} {n : Nat} (hn : l.length = n) (f : Nat → Nat) : sumR (fun i => f (l.getD i 0)) n = (l.map f).sum := by
  unfold sumR
  subst hn
  congr 1
  refine List.ext_getElem (by simp) fun i h1 h2 => ?_
  simp at h1
  simp [h1]
theorem sum_pows : ∀ n, ((List.range n).map fun k => 2 ^ k).sum = 2 ^ n - 1
  | 0 => rfl
  | n + 1 => by
    rw [List.range_succ, List.map_append, List.sum_append, sum_pows n]
    have := Nat.two_pow_pos n
    simp
    omega
end Py

set_option Elab.async false
set_option linter.all false
set_option maxRecDepth 100000
set_option maxHeartbeats 4000000
namespace Lw
open PySem L2 PySem.Spec PyProof.Rows Evl Py
def top (i : Nat) : Stmt := PySem.Challenge.pw_fullsides_k81_trees.main.body.getD i (.Pass ⟨0, 0, 0, 0⟩)
section
variable {cl : Cl} {Pr : Program} {w : World} {K : PySem.W.Frag} {mg : Str → Option Value} {base : Heap}

abbrev cid_TownError : Nat := 0
abbrev cid_BadLot : Nat := 1
abbrev cid_ThreeCross : Nat := 2
abbrev cid_TwoCross : Nat := 3
abbrev cid_CountsDiffer : Nat := 4
abbrev cid_Tree : Nat := 5
abbrev cid_Book : Nat := 6
/-! ### _law_digits -/
abbrev s__law_digits : Stmt := top 33
theorem sc__law_digits : FnScope ["cell", "sizes", "found", "rest", "base", "seed", "k", "twice"] ["cell", "sizes"] (defScope s__law_digits) := ⟨rfl, rfl, rfl, by decide +kernel, rfl, by decide +kernel, by decide +kernel⟩
def S__law_digits (d : Nat) : Sx :=
  S.seq (S.new 2 (lfits P.nil))
  (S.seq (S.asg 3 (P.bin T.mod (P.call (fun ts => .of (B.int ts)) (P.cons (P.var d 0) P.nil)) (P.bin T.mul (P.bin T.mul (P.bin T.pow (P.c (.int 10)) (P.c (.int 60))) (P.bin T.pow (P.c (.int 10)) (P.c (.int 60)))) (P.bin T.pow (P.c (.int 10)) (P.c (.int 60))))))
  (S.seq (S.ite (P.tb (P.bin T.ge (P.var d 3) (P.bin T.pow (P.c (.int 10)) (P.c (.int 18)))))
  (S.seq (S.asg 3 (P.bin T.sub (P.var d 3) (P.bin T.pow (P.c (.int 10)) (P.c (.int 18)))))
  (S.seq (S.for_ (S.tName 4) (P.items (P.var d 1))
  (S.seq (S.app 2 (P.bin T.mod (P.call (fun ts => .of (B.int ts)) (P.cons (P.var d 3) P.nil)) (P.var d 4)))
  (S.asg 3 (P.bin T.fdiv (P.call (fun ts => .of (B.int ts)) (P.cons (P.var d 3) P.nil)) (P.var d 4)))))
  (S.frz 2 (S.ret (P.var d 2)))))
  S.skip)
  (S.seq (S.asg 5 (P.bin T.mod (P.call (fun ts => .of (B.int ts)) (P.cons (P.var d 3) P.nil)) (P.c (.int 2147483629))))
  (S.seq (S.forX (S.tName 6) (P.rng1 (P.cons (P.call (fun ts => .of (B.len ts)) (P.cons (P.var d 1) P.nil)) P.nil))
  (S.seq (S.asg 5 (P.bin T.mod (P.call (fun ts => .of (B.int ts)) (P.cons (P.bin T.add (P.bin T.add (P.bin T.mul (P.var d 5) (P.c (.int 48271))) (P.bin T.mul (P.c (.int 974711)) (P.var d 6))) (P.c (.int 12345))) P.nil)) (P.c (.int 2147483647))))
  (S.seq (S.asg 7 (P.bin T.mod (P.call (fun ts => .of (B.int ts)) (P.cons (P.bin T.mul (P.var d 5) (P.bin T.add (P.bin T.fdiv (P.var d 5) (P.c (.int 65537))) (P.c (.int 3)))) P.nil)) (P.c (.int 2147483629))))
  (S.app 2 (P.bin T.mod (P.call (fun ts => .of (B.int ts)) (P.cons (P.bin T.fdiv (P.var d 7) (P.c (.int 19))) P.nil)) (P.bin T.ix (P.var d 1) (P.var d 6)))))))
  (S.frz 2 (S.ret (P.var d 2)))))))
def f__law_digits (d : Nat) (ts : List T) : Res T := run 8 (S__law_digits d) ts
theorem ok__law_digits {fa : Addr} {fd : FuncData} (F : FnP K "_law_digits" s__law_digits fa fd) (hm : mg "_law_digits" = some (.ref fa)) (p0 : cl.pin = none) (g_int : mg "int" = none) (g_len : mg "len" = none) (g_range : mg "range" = none) : Dok cl Pr w K mg base "_law_digits" 1 2 f__law_digits := by
  have hN : (["cell", "sizes", "found", "rest", "base", "seed", "k", "twice"] : List Str).Nodup := sc__law_digits.nd
  refine dok_of (N := ["cell", "sizes", "found", "rest", "base", "seed", "k", "twice"]) (ps := ["cell", "sizes"]) F sc__law_digits rfl (by decide) p0 hm (fun _ _ => rfl) (fun _ _ _ _ _ _ us hl => match us, hl with | [_, _], _ => rfl) (fun d cdv A outer s H E hr => ?_)
  exact (db_cons (ds_new (i := 2) hN (dn_lst da_nil))
  (db_cons (ds_asg (i := 3) hN (de_op opD_mod (de_ty crd_int g_int (by decide +kernel) (da_cons (de_v 0) da_nil)) (de_op opD_mul (de_op opD_mul (de_op opD_pow de_int de_int) (de_op opD_pow de_int de_int)) (de_op opD_pow de_int de_int))))
  (db_cons (ds_if (dt_cmp opD_ge (de_v 3) (de_op opD_pow de_int de_int))
  (db_cons (ds_asg (i := 3) hN (de_op opD_sub (de_v 3) (de_op opD_pow de_int de_int)))
  (db_cons (ds_for po_of (di_seq (de_v 1)) (dg_name (i := 4) hN)
  (db_cons (ds_app (i := 2) (de_op opD_mod (de_ty crd_int g_int (by decide +kernel) (da_cons (de_v 3) da_nil)) (de_v 4)))
  (db_one (ds_asg (i := 3) hN (de_op opD_fdiv (de_ty crd_int g_int (by decide +kernel) (da_cons (de_v 3) da_nil)) (de_v 4))))))
  (db_one (ds_frz 2 (ds_ret (de_v 2))))))
  db_nil)
  (db_cons (ds_asg (i := 5) hN (de_op opD_mod (de_ty crd_int g_int (by decide +kernel) (da_cons (de_v 3) da_nil)) de_int))
  (db_cons (ds_forX po_of (dif_rng1 (da_cons (de_b crd_len g_len (by decide +kernel) (da_cons (de_v 1) da_nil)) da_nil) g_range) (dg_name (i := 6) hN)
  (db_cons (ds_asg (i := 5) hN (de_op opD_mod (de_ty crd_int g_int (by decide +kernel) (da_cons (de_op opD_add (de_op opD_add (de_op opD_mul (de_v 5) de_int) (de_op opD_mul de_int (de_v 6))) de_int) da_nil)) de_int))
  (db_cons (ds_asg (i := 7) hN (de_op opD_mod (de_ty crd_int g_int (by decide +kernel) (da_cons (de_op opD_mul (de_v 5) (de_op opD_add (de_op opD_fdiv (de_v 5) de_int) de_int)) da_nil)) de_int))
  (db_one (ds_app (i := 2) (de_op opD_mod (de_ty crd_int g_int (by decide +kernel) (da_cons (de_op opD_fdiv (de_v 7) de_int) da_nil)) (de_ix (de_v 1) (de_v 6))))))))
  (db_one (ds_frz 2 (ds_ret (de_v 2)))))))))
/-! ### _law_cell -/
abbrev s__law_cell : Stmt := top 32
theorem sc__law_cell : FnScope ["script", "k", "seed", "cell"] ["script", "k"] (defScope s__law_cell) := ⟨rfl, rfl, rfl, by decide +kernel, rfl, by decide +kernel, by decide +kernel⟩
def S__law_cell (d : Nat) : Sx :=
  S.seq (S.ite (P.tb (P.bin T.lt (P.var d 1) (P.call (fun ts => .of (B.len ts)) (P.cons (P.var d 0) P.nil))))
  (S.ret (P.call (fun ts => .of (B.int ts)) (P.cons (P.bin T.ix (P.var d 0) (P.var d 1)) P.nil)))
  S.skip)
  (S.seq (S.asg 2 (P.c (.int 7)))
  (S.seq (S.for_ (S.tName 3) (P.items (P.var d 0))
  (S.asg 2 (P.bin T.mod (P.call (fun ts => .of (B.int ts)) (P.cons (P.bin T.add (P.bin T.mul (P.var d 2) (P.c (.int 33))) (P.bin T.mod (P.call (fun ts => .of (B.int ts)) (P.cons (P.var d 3) P.nil)) (P.c (.int 999983)))) P.nil)) (P.c (.int 999983)))))
  (S.ret (P.bin T.mod (P.call (fun ts => .of (B.int ts)) (P.cons (P.bin T.mul (P.bin T.mul (P.bin T.add (P.var d 2) (P.c (.int 11))) (P.bin T.add (P.var d 1) (P.c (.int 5)))) (P.c (.int 48271))) P.nil)) (P.c (.int 2147483647))))))
def f__law_cell (d : Nat) (ts : List T) : Res T := run 4 (S__law_cell d) ts
theorem ok__law_cell {fa : Addr} {fd : FuncData} (F : FnP K "_law_cell" s__law_cell fa fd) (hm : mg "_law_cell" = some (.ref fa)) (p0 : cl.pin = none) (g_int : mg "int" = none) (g_len : mg "len" = none) : Dok cl Pr w K mg base "_law_cell" 1 2 f__law_cell := by
  have hN : (["script", "k", "seed", "cell"] : List Str).Nodup := sc__law_cell.nd
  refine dok_of (N := ["script", "k", "seed", "cell"]) (ps := ["script", "k"]) F sc__law_cell rfl (by decide) p0 hm (fun _ _ => rfl) (fun _ _ _ _ _ _ us hl => match us, hl with | [_, _], _ => rfl) (fun d cdv A outer s H E hr => ?_)
  exact (db_cons (ds_if (dt_cmp opD_lt (de_v 1) (de_b crd_len g_len (by decide +kernel) (da_cons (de_v 0) da_nil)))
  (db_one (ds_ret (de_ty crd_int g_int (by decide +kernel) (da_cons (de_ix (de_v 0) (de_v 1)) da_nil))))
  db_nil)
  (db_cons (ds_asg (i := 2) hN de_int)
  (db_cons (ds_for po_of (di_seq (de_v 0)) (dg_name (i := 3) hN)
  (db_one (ds_asg (i := 2) hN (de_op opD_mod (de_ty crd_int g_int (by decide +kernel) (da_cons (de_op opD_add (de_op opD_mul (de_v 2) de_int) (de_op opD_mod (de_ty crd_int g_int (by decide +kernel) (da_cons (de_v 3) da_nil)) de_int)) da_nil)) de_int))))
  (db_one (ds_ret (de_op opD_mod (de_ty crd_int g_int (by decide +kernel) (da_cons (de_op opD_mul (de_op opD_mul (de_op opD_add (de_v 2) de_int) (de_op opD_add (de_v 1) de_int)) de_int) da_nil)) de_int))))))
/-! ### _law_bit -/
abbrev s__law_bit : Stmt := top 34
theorem sc__law_bit : FnScope ["lot", "number"] ["lot", "number"] (defScope s__law_bit) := ⟨rfl, rfl, rfl, by decide +kernel, rfl, by decide +kernel, by decide +kernel⟩
def S__law_bit (d : Nat) : Sx :=
  S.ret (P.bin T.mod (P.call (fun ts => .of (B.int ts)) (P.cons (P.bin T.fdiv (P.var d 0) (P.bin T.shl (P.c (.int 1)) (P.var d 1))) P.nil)) (P.c (.int 2)))
def f__law_bit (d : Nat) (ts : List T) : Res T := run 2 (S__law_bit d) ts
theorem ok__law_bit {fa : Addr} {fd : FuncData} (F : FnP K "_law_bit" s__law_bit fa fd) (hm : mg "_law_bit" = some (.ref fa)) (p0 : cl.pin = none) (g_int : mg "int" = none) : Dok cl Pr w K mg base "_law_bit" 1 2 f__law_bit := by
  have hN : (["lot", "number"] : List Str).Nodup := sc__law_bit.nd
  refine dok_of (N := ["lot", "number"]) (ps := ["lot", "number"]) F sc__law_bit rfl (by decide) p0 hm (fun _ _ => rfl) (fun _ _ _ _ _ _ us hl => match us, hl with | [_, _], _ => rfl) (fun d cdv A outer s H E hr => ?_)
  exact (db_one (ds_ret (de_op opD_mod (de_ty crd_int g_int (by decide +kernel) (da_cons (de_op opD_fdiv (de_v 0) (de_op opD_shl de_int (de_v 1))) da_nil)) de_int)))
/-! ### _law_side -/
abbrev s__law_side : Stmt := top 36
theorem sc__law_side : FnScope ["g", "lot"] ["g", "lot"] (defScope s__law_side) := ⟨rfl, rfl, rfl, by decide +kernel, rfl, by decide +kernel, by decide +kernel⟩
def S__law_side (d : Nat) : Sx :=
  S.seq (S.ite (P.tb (P.bin T.eq (P.call (f__law_bit (d + 1)) (P.cons (P.var d 1) (P.cons (P.c (.int 0)) P.nil))) (P.c (.int 1))))
  (S.ret (P.bin T.sub (P.bin T.sub (P.bin T.shl (P.c (.int 1)) (P.var d 0)) (P.c (.int 1))) (P.var d 1)))
  S.skip)
  (S.ret (P.var d 1))
def f__law_side (d : Nat) (ts : List T) : Res T := run 2 (S__law_side d) ts
theorem ok__law_side {fa : Addr} {fd : FuncData} (F : FnP K "_law_side" s__law_side fa fd) (hm : mg "_law_side" = some (.ref fa)) (D__law_bit : Dok cl Pr w K mg base "_law_bit" 1 2 f__law_bit) (p0 : cl.pin = none) : Dok cl Pr w K mg base "_law_side" 2 2 f__law_side := by
  have hN : (["g", "lot"] : List Str).Nodup := sc__law_side.nd
  refine dok_of (N := ["g", "lot"]) (ps := ["g", "lot"]) F sc__law_side rfl (by decide) p0 hm (fun _ _ => rfl) (fun _ _ _ _ _ _ us hl => match us, hl with | [_, _], _ => rfl) (fun d cdv A outer s H E hr => ?_)
  exact (db_cons (ds_if (dt_cmp (opD_eq hr.units) (de_d D__law_bit (hr.mono (by decide)) (da_cons (de_v 1) (da_cons de_int da_nil)) (n_cons (n_cons n_nil))) de_int)
  (db_one (ds_ret (de_op opD_sub (de_op opD_sub (de_op opD_shl de_int (de_v 0)) de_int) (de_v 1))))
  db_nil)
  (db_one (ds_ret (de_v 1))))
/-! ### _law_cross -/
abbrev s__law_cross : Stmt := top 37
theorem sc__law_cross : FnScope ["g", "one", "two", "seen", "gate"] ["g", "one", "two"] (defScope s__law_cross) := ⟨rfl, rfl, rfl, by decide +kernel, rfl, by decide +kernel, by decide +kernel⟩
def S__law_cross (d : Nat) : Sx :=
  S.seq (S.new 3 (lfits (P.cons (P.c (.bl false)) (P.cons (P.c (.bl false)) (P.cons (P.c (.bl false)) (P.cons (P.c (.bl false)) P.nil))))))
  (S.seq (S.forX (S.tName 4) (P.rng1 (P.cons (P.var d 0) P.nil))
  (S.setX 3 (P.bin T.add (P.bin T.mul (P.c (.int 2)) (P.call (f__law_bit (d + 1)) (P.cons (P.var d 1) (P.cons (P.var d 4) P.nil)))) (P.call (f__law_bit (d + 1)) (P.cons (P.var d 2) (P.cons (P.var d 4) P.nil)))) (P.c (.bl true))))
  (S.retX (P.bin T.eq (P.var d 3) (P.lst (P.cons (P.c (.bl true)) (P.cons (P.c (.bl true)) (P.cons (P.c (.bl true)) (P.cons (P.c (.bl true)) P.nil))))))))
def f__law_cross (d : Nat) (ts : List T) : Res T := run 5 (S__law_cross d) ts
theorem ok__law_cross {fa : Addr} {fd : FuncData} (F : FnP K "_law_cross" s__law_cross fa fd) (hm : mg "_law_cross" = some (.ref fa)) (D__law_bit : Dok cl Pr w K mg base "_law_bit" 1 2 f__law_bit) (p0 : cl.pin = none) (g_range : mg "range" = none) : Dok cl Pr w K mg base "_law_cross" 2 3 f__law_cross := by
  have hN : (["g", "one", "two", "seen", "gate"] : List Str).Nodup := sc__law_cross.nd
  refine dok_of (N := ["g", "one", "two", "seen", "gate"]) (ps := ["g", "one", "two"]) F sc__law_cross rfl (by decide) p0 hm (fun _ _ => rfl) (fun _ _ _ _ _ _ us hl => match us, hl with | [_, _, _], _ => rfl) (fun d cdv A outer s H E hr => ?_)
  exact (db_cons (ds_new (i := 3) hN (dn_lst (da_cons de_bl (da_cons de_bl (da_cons de_bl (da_cons de_bl da_nil))))))
  (db_cons (ds_forX po_of (dif_rng1 (da_cons (de_v 0) da_nil) g_range) (dg_name (i := 4) hN)
  (db_one (ds_setX (i := 3) de_bl (de_op opD_add (de_op opD_mul de_int (de_d D__law_bit (hr.mono (by decide)) (da_cons (de_v 1) (da_cons (de_v 4) da_nil)) (n_cons (n_cons n_nil)))) (de_d D__law_bit (hr.mono (by decide)) (da_cons (de_v 2) (da_cons (de_v 4) da_nil)) (n_cons (n_cons n_nil)))))))
  (db_one (ds_retX (de_cmp (opD_eq hr.units) (de_v 3) (de_lst (da_cons de_bl (da_cons de_bl (da_cons de_bl (da_cons de_bl da_nil))))))))))
/-! ### _law_first_three -/
abbrev s__law_first_three : Stmt := top 38
theorem sc__law_first_three : FnScope ["g", "sides", "i", "j", "k"] ["g", "sides"] (defScope s__law_first_three) := ⟨rfl, rfl, rfl, by decide +kernel, rfl, by decide +kernel, by decide +kernel⟩
def S__law_first_three (d : Nat) : Sx :=
  S.seq (S.forX (S.tName 2) (P.rng1 (P.cons (P.call (fun ts => .of (B.len ts)) (P.cons (P.var d 1) P.nil)) P.nil))
  (S.forX (S.tName 3) (P.rng2 (P.cons (P.bin T.add (P.var d 2) (P.c (.int 1))) (P.cons (P.call (fun ts => .of (B.len ts)) (P.cons (P.var d 1) P.nil)) P.nil)))
  (S.ite (P.tb (P.call (f__law_cross (d + 1)) (P.cons (P.var d 0) (P.cons (P.bin T.ix (P.var d 1) (P.var d 2)) (P.cons (P.bin T.ix (P.var d 1) (P.var d 3)) P.nil)))))
  (S.forX (S.tName 4) (P.rng2 (P.cons (P.bin T.add (P.var d 3) (P.c (.int 1))) (P.cons (P.call (fun ts => .of (B.len ts)) (P.cons (P.var d 1) P.nil)) P.nil)))
  (S.ite (P.and (P.tb (P.call (f__law_cross (d + 1)) (P.cons (P.var d 0) (P.cons (P.bin T.ix (P.var d 1) (P.var d 2)) (P.cons (P.bin T.ix (P.var d 1) (P.var d 4)) P.nil))))) (P.tb (P.call (f__law_cross (d + 1)) (P.cons (P.var d 0) (P.cons (P.bin T.ix (P.var d 1) (P.var d 3)) (P.cons (P.bin T.ix (P.var d 1) (P.var d 4)) P.nil))))))
  (S.ret (P.lst (P.cons (P.bin T.ix (P.var d 1) (P.var d 2)) (P.cons (P.bin T.ix (P.var d 1) (P.var d 3)) (P.cons (P.bin T.ix (P.var d 1) (P.var d 4)) P.nil)))))
  S.skip))
  S.skip)))
  (S.ret (P.c .non))
def f__law_first_three (d : Nat) (ts : List T) : Res T := run 5 (S__law_first_three d) ts
theorem ok__law_first_three {fa : Addr} {fd : FuncData} (F : FnP K "_law_first_three" s__law_first_three fa fd) (hm : mg "_law_first_three" = some (.ref fa)) (D__law_cross : Dok cl Pr w K mg base "_law_cross" 2 3 f__law_cross) (p0 : cl.pin = none) (g_len : mg "len" = none) (g_range : mg "range" = none) : Dok cl Pr w K mg base "_law_first_three" 3 2 f__law_first_three := by
  have hN : (["g", "sides", "i", "j", "k"] : List Str).Nodup := sc__law_first_three.nd
  refine dok_of (N := ["g", "sides", "i", "j", "k"]) (ps := ["g", "sides"]) F sc__law_first_three rfl (by decide) p0 hm (fun _ _ => rfl) (fun _ _ _ _ _ _ us hl => match us, hl with | [_, _], _ => rfl) (fun d cdv A outer s H E hr => ?_)
  exact (db_cons (ds_forX po_of (dif_rng1 (da_cons (de_b crd_len g_len (by decide +kernel) (da_cons (de_v 1) da_nil)) da_nil) g_range) (dg_name (i := 2) hN)
  (db_one (ds_forX po_of (dif_rng2 (da_cons (de_op opD_add (de_v 2) de_int) (da_cons (de_b crd_len g_len (by decide +kernel) (da_cons (de_v 1) da_nil)) da_nil)) g_range) (dg_name (i := 3) hN)
  (db_one (ds_if (dt_val (de_d D__law_cross (hr.mono (by decide)) (da_cons (de_v 0) (da_cons (de_ix (de_v 1) (de_v 2)) (da_cons (de_ix (de_v 1) (de_v 3)) da_nil))) (n_cons (n_cons (n_cons n_nil)))))
  (db_one (ds_forX po_of (dif_rng2 (da_cons (de_op opD_add (de_v 3) de_int) (da_cons (de_b crd_len g_len (by decide +kernel) (da_cons (de_v 1) da_nil)) da_nil)) g_range) (dg_name (i := 4) hN)
  (db_one (ds_if (dt_w (dw_and (dt_val (de_d D__law_cross (hr.mono (by decide)) (da_cons (de_v 0) (da_cons (de_ix (de_v 1) (de_v 2)) (da_cons (de_ix (de_v 1) (de_v 4)) da_nil))) (n_cons (n_cons (n_cons n_nil))))) (dw_and1 (dt_val (de_d D__law_cross (hr.mono (by decide)) (da_cons (de_v 0) (da_cons (de_ix (de_v 1) (de_v 3)) (da_cons (de_ix (de_v 1) (de_v 4)) da_nil))) (n_cons (n_cons (n_cons n_nil))))))))
  (db_one (ds_ret (de_lst (da_cons (de_ix (de_v 1) (de_v 2)) (da_cons (de_ix (de_v 1) (de_v 3)) (da_cons (de_ix (de_v 1) (de_v 4)) da_nil))))))
  db_nil))))
  db_nil)))))
  (db_one (ds_ret de_non)))
/-! ### _law_first_two -/
abbrev s__law_first_two : Stmt := top 39
theorem sc__law_first_two : FnScope ["g", "sides", "i", "j"] ["g", "sides"] (defScope s__law_first_two) := ⟨rfl, rfl, rfl, by decide +kernel, rfl, by decide +kernel, by decide +kernel⟩
def S__law_first_two (d : Nat) : Sx :=
  S.seq (S.forX (S.tName 2) (P.rng1 (P.cons (P.call (fun ts => .of (B.len ts)) (P.cons (P.var d 1) P.nil)) P.nil))
  (S.forX (S.tName 3) (P.rng2 (P.cons (P.bin T.add (P.var d 2) (P.c (.int 1))) (P.cons (P.call (fun ts => .of (B.len ts)) (P.cons (P.var d 1) P.nil)) P.nil)))
  (S.ite (P.tb (P.call (f__law_cross (d + 1)) (P.cons (P.var d 0) (P.cons (P.bin T.ix (P.var d 1) (P.var d 2)) (P.cons (P.bin T.ix (P.var d 1) (P.var d 3)) P.nil)))))
  (S.ret (P.lst (P.cons (P.bin T.ix (P.var d 1) (P.var d 2)) (P.cons (P.bin T.ix (P.var d 1) (P.var d 3)) P.nil))))
  S.skip)))
  (S.ret (P.c .non))
def f__law_first_two (d : Nat) (ts : List T) : Res T := run 4 (S__law_first_two d) ts
theorem ok__law_first_two {fa : Addr} {fd : FuncData} (F : FnP K "_law_first_two" s__law_first_two fa fd) (hm : mg "_law_first_two" = some (.ref fa)) (D__law_cross : Dok cl Pr w K mg base "_law_cross" 2 3 f__law_cross) (p0 : cl.pin = none) (g_len : mg "len" = none) (g_range : mg "range" = none) : Dok cl Pr w K mg base "_law_first_two" 3 2 f__law_first_two := by
  have hN : (["g", "sides", "i", "j"] : List Str).Nodup := sc__law_first_two.nd
  refine dok_of (N := ["g", "sides", "i", "j"]) (ps := ["g", "sides"]) F sc__law_first_two rfl (by decide) p0 hm (fun _ _ => rfl) (fun _ _ _ _ _ _ us hl => match us, hl with | [_, _], _ => rfl) (fun d cdv A outer s H E hr => ?_)
  exact (db_cons (ds_forX po_of (dif_rng1 (da_cons (de_b crd_len g_len (by decide +kernel) (da_cons (de_v 1) da_nil)) da_nil) g_range) (dg_name (i := 2) hN)
  (db_one (ds_forX po_of (dif_rng2 (da_cons (de_op opD_add (de_v 2) de_int) (da_cons (de_b crd_len g_len (by decide +kernel) (da_cons (de_v 1) da_nil)) da_nil)) g_range) (dg_name (i := 3) hN)
  (db_one (ds_if (dt_val (de_d D__law_cross (hr.mono (by decide)) (da_cons (de_v 0) (da_cons (de_ix (de_v 1) (de_v 2)) (da_cons (de_ix (de_v 1) (de_v 3)) da_nil))) (n_cons (n_cons (n_cons n_nil)))))
  (db_one (ds_ret (de_lst (da_cons (de_ix (de_v 1) (de_v 2)) (da_cons (de_ix (de_v 1) (de_v 3)) da_nil)))))
  db_nil)))))
  (db_one (ds_ret de_non)))
/-! ### _law_lots -/
abbrev s__law_lots : Stmt := top 40
theorem sc__law_lots : FnScope ["cell", "g", "most", "kind", "row", "lots", "k", "lot", "sides", "fresh", "other"] ["cell", "g", "most", "kind"] (defScope s__law_lots) := ⟨rfl, rfl, rfl, by decide +kernel, rfl, by decide +kernel, by decide +kernel⟩
def S__law_lots (d : Nat) : Sx :=
  S.seq (S.asg 4 (P.call (f__law_digits (d + 1)) (P.cons (P.var d 0) (P.cons (P.bin T.add (P.lst (P.cons (P.bin T.add (P.var d 2) (P.c (.int 1))) P.nil)) (P.bin T.mul (P.lst (P.cons (P.bin T.sub (P.bin T.shl (P.c (.int 1)) (P.var d 1)) (P.c (.int 2))) P.nil)) (P.c (.int 16)))) P.nil))))
  (S.seq (S.new 5 (lfits P.nil))
  (S.seq (S.forX (S.tName 6) (P.rng1 (P.cons (P.c (.int 16)) P.nil))
  (S.seq (S.asg 7 (P.bin T.add (P.c (.int 1)) (P.bin T.ix (P.var d 4) (P.bin T.add (P.c (.int 1)) (P.var d 6)))))
  (S.seq (S.asgY 8 (P.call (fun ts => .of (B.sorted ts)) (P.cons (P.bin T.add (P.lc [10] (S.tName 10) (P.items (P.var d 5)) P.yes (P.call (f__law_side (d + 1)) (P.cons (P.var d 1) (P.cons (P.var d 10) P.nil)))) (P.lst (P.cons (P.call (f__law_side (d + 1)) (P.cons (P.var d 1) (P.cons (P.var d 7) P.nil))) P.nil))) P.nil)))
  (S.seq (S.asgX 9 (P.bin (T.isIn true) (P.call (f__law_side (d + 1)) (P.cons (P.var d 1) (P.cons (P.var d 7) P.nil))) (P.lc [10] (S.tName 10) (P.items (P.var d 5)) P.yes (P.call (f__law_side (d + 1)) (P.cons (P.var d 1) (P.cons (P.var d 10) P.nil))))))
  (S.seq (S.ite (P.and (P.tb (P.bin T.eq (P.var d 3) (P.c (.str "thin")))) (P.tb (P.bin T.notA (P.call (f__law_first_three (d + 1)) (P.cons (P.var d 1) (P.cons (P.var d 8) P.nil))) (P.c .non))))
  (S.asg 9 (P.c (.bl false)))
  S.skip)
  (S.seq (S.ite (P.and (P.tb (P.bin T.eq (P.var d 3) (P.c (.str "nested")))) (P.tb (P.bin T.notA (P.call (f__law_first_two (d + 1)) (P.cons (P.var d 1) (P.cons (P.var d 8) P.nil))) (P.c .non))))
  (S.asg 9 (P.c (.bl false)))
  S.skip)
  (S.ite (P.and (P.tb (P.var d 9)) (P.tb (P.bin T.lt (P.call (fun ts => .of (B.len ts)) (P.cons (P.var d 5) P.nil)) (P.call (fun ts => .of (B.max2 ts)) (P.cons (P.c (.int 1)) (P.cons (P.bin T.ix (P.var d 4) (P.c (.int 0))) P.nil))))))
  (S.app 5 (P.var d 7))
  S.skip)))))))
  (S.frz 5 (S.ret (P.var d 5)))))
def f__law_lots (d : Nat) (ts : List T) : Res T := run 11 (S__law_lots d) ts
theorem ok__law_lots {fa : Addr} {fd : FuncData} (F : FnP K "_law_lots" s__law_lots fa fd) (hm : mg "_law_lots" = some (.ref fa)) (D__law_digits : Dok cl Pr w K mg base "_law_digits" 1 2 f__law_digits) (D__law_first_three : Dok cl Pr w K mg base "_law_first_three" 3 2 f__law_first_three) (D__law_first_two : Dok cl Pr w K mg base "_law_first_two" 3 2 f__law_first_two) (D__law_side : Dok cl Pr w K mg base "_law_side" 2 2 f__law_side) (p0 : cl.pin = none) (g_len : mg "len" = none) (g_max : mg "max" = none) (g_range : mg "range" = none) (g_sorted : mg "sorted" = none) : Dok cl Pr w K mg base "_law_lots" 4 4 f__law_lots := by
  have hN : (["cell", "g", "most", "kind", "row", "lots", "k", "lot", "sides", "fresh", "other"] : List Str).Nodup := sc__law_lots.nd
  refine dok_of (N := ["cell", "g", "most", "kind", "row", "lots", "k", "lot", "sides", "fresh", "other"]) (ps := ["cell", "g", "most", "kind"]) F sc__law_lots rfl (by decide) p0 hm (fun _ _ => rfl) (fun _ _ _ _ _ _ us hl => match us, hl with | [_, _, _, _], _ => rfl) (fun d cdv A outer s H E hr => ?_)
  exact (db_cons (ds_asg (i := 4) hN (de_d D__law_digits (hr.mono (by decide)) (da_cons (de_v 0) (da_cons (de_op opD_add (de_lst (da_cons (de_op opD_add (de_v 2) de_int) da_nil)) (de_op opD_mul (de_lst (da_cons (de_op opD_sub (de_op opD_shl de_int (de_v 1)) de_int) da_nil)) de_int)) da_nil)) (n_cons (n_cons n_nil))))
  (db_cons (ds_new (i := 5) hN (dn_lst da_nil))
  (db_cons (ds_forX po_of (dif_rng1 (da_cons de_int da_nil) g_range) (dg_name (i := 6) hN)
  (db_cons (ds_asg (i := 7) hN (de_op opD_add de_int (de_ix (de_v 4) (de_op opD_add de_int (de_v 6)))))
  (db_cons (ds_asgY (i := 8) hN (de_b crd_sorted g_sorted (by decide +kernel) (da_cons (de_op opD_add (DN.de (dn_lc hN (di_seq (de_v 5)) (blkOk_by (own := [("other", 10)]) (by rfl)) (fun _ _ _ _ _ => dc_name (i := 10) (by decide) hN) (fun _ _ _ _ _ => dts_nil) (fun _ _ _ _ _ => de_d D__law_side (hr.mono (by decide)) (da_cons (de_v 1) (da_cons (de_v 10) da_nil)) (n_cons (n_cons n_nil))))) (de_lst (da_cons (de_d D__law_side (hr.mono (by decide)) (da_cons (de_v 1) (da_cons (de_v 7) da_nil)) (n_cons (n_cons n_nil))) da_nil))) da_nil)))
  (db_cons (ds_asgX (i := 9) hN (de_cmp opD_notIn (de_d D__law_side (hr.mono (by decide)) (da_cons (de_v 1) (da_cons (de_v 7) da_nil)) (n_cons (n_cons n_nil))) (DN.de (dn_lc hN (di_seq (de_v 5)) (blkOk_by (own := [("other", 10)]) (by rfl)) (fun _ _ _ _ _ => dc_name (i := 10) (by decide) hN) (fun _ _ _ _ _ => dts_nil) (fun _ _ _ _ _ => de_d D__law_side (hr.mono (by decide)) (da_cons (de_v 1) (da_cons (de_v 10) da_nil)) (n_cons (n_cons n_nil)))))))
  (db_cons (ds_if (dt_w (dw_and (dt_cmp (opD_eq hr.units) (de_v 3) de_str) (dw_and1 (dt_cmp opD_notA (de_d D__law_first_three (hr.mono (by decide)) (da_cons (de_v 1) (da_cons (de_v 8) da_nil)) (n_cons (n_cons n_nil))) de_non))))
  (db_one (ds_asg (i := 9) hN de_bl))
  db_nil)
  (db_cons (ds_if (dt_w (dw_and (dt_cmp (opD_eq hr.units) (de_v 3) de_str) (dw_and1 (dt_cmp opD_notA (de_d D__law_first_two (hr.mono (by decide)) (da_cons (de_v 1) (da_cons (de_v 8) da_nil)) (n_cons (n_cons n_nil))) de_non))))
  (db_one (ds_asg (i := 9) hN de_bl))
  db_nil)
  (db_one (ds_if (dt_w (dw_and (dt_val (de_v 9)) (dw_and1 (dt_cmp opD_lt (de_b crd_len g_len (by decide +kernel) (da_cons (de_v 5) da_nil)) (de_b (crd_max2 rfl) g_max (by decide +kernel) (da_cons de_int (da_cons (de_ix (de_v 4) de_int) da_nil)))))))
  (db_one (ds_app (i := 5) (de_v 7)))
  db_nil))))))))
  (db_one (ds_frz 5 (ds_ret (de_v 5)))))))
/-! ### is_whole -/
abbrev s_is_whole : Stmt := top 7
theorem sc_is_whole : FnScope ["value"] ["value"] (defScope s_is_whole) := ⟨rfl, rfl, rfl, by decide +kernel, rfl, by decide +kernel, by decide +kernel⟩
def S_is_whole (d : Nat) : Sx :=
  S.ret (P.andV (P.un (T.isi "int") (P.var d 0)) (P.notV (P.un (T.isi "bool") (P.var d 0))))
def f_is_whole (d : Nat) (ts : List T) : Res T := run 1 (S_is_whole d) ts
theorem ok_is_whole {fa : Addr} {fd : FuncData} (F : FnP K "is_whole" s_is_whole fa fd) (hm : mg "is_whole" = some (.ref fa)) (p0 : cl.pin = none) (g_bool : mg "bool" = none) (g_int : mg "int" = none) (g_isinstance : mg "isinstance" = none) : Dok cl Pr w K mg base "is_whole" 1 1 f_is_whole := by
  have hN : (["value"] : List Str).Nodup := sc_is_whole.nd
  refine dok_of (N := ["value"]) (ps := ["value"]) F sc_is_whole rfl (by decide) p0 hm (fun _ _ => rfl) (fun _ _ _ _ _ _ us hl => match us, hl with | [_], _ => rfl) (fun d cdv A outer s H E hr => ?_)
  exact (db_one (ds_ret (de_and (de_isi g_isinstance g_int (by decide +kernel) (de_v 0)) (de_one (de_not (de_isi g_isinstance g_bool (by decide +kernel) (de_v 0)))))))
/-! ### is_side_lot -/
abbrev s_is_side_lot : Stmt := top 9
theorem sc_is_side_lot : FnScope ["many", "lot"] ["many", "lot"] (defScope s_is_side_lot) := ⟨rfl, rfl, rfl, by decide +kernel, rfl, by decide +kernel, by decide +kernel⟩
def S_is_side_lot (d : Nat) : Sx :=
  S.ret (P.andV (P.call (f_is_whole (d + 1)) (P.cons (P.var d 1) P.nil)) (P.chain T.lt T.lt (P.c (.int 0)) (P.var d 1) (P.bin T.sub (P.bin T.shl (P.c (.int 1)) (P.var d 0)) (P.c (.int 1)))))
def f_is_side_lot (d : Nat) (ts : List T) : Res T := run 2 (S_is_side_lot d) ts
theorem ok_is_side_lot {fa : Addr} {fd : FuncData} (F : FnP K "is_side_lot" s_is_side_lot fa fd) (hm : mg "is_side_lot" = some (.ref fa)) (D_is_whole : Dok cl Pr w K mg base "is_whole" 1 1 f_is_whole) (p0 : cl.pin = none) : Dok cl Pr w K mg base "is_side_lot" 2 2 f_is_side_lot := by
  have hN : (["many", "lot"] : List Str).Nodup := sc_is_side_lot.nd
  refine dok_of (N := ["many", "lot"]) (ps := ["many", "lot"]) F sc_is_side_lot rfl (by decide) p0 hm (fun _ _ => rfl) (fun _ _ _ _ _ _ us hl => match us, hl with | [_, _], _ => rfl) (fun d cdv A outer s H E hr => ?_)
  exact (db_one (ds_ret (de_and (de_d D_is_whole (hr.mono (by decide)) (da_cons (de_v 1) da_nil) (n_cons n_nil)) (de_one (de_chain opD_lt opD_lt de_int (de_v 1) (de_op opD_sub (de_op opD_shl de_int (de_v 0)) de_int))))))
/-! ### side -/
abbrev s_side : Stmt := top 10
theorem sc_side : FnScope ["many", "lot"] ["many", "lot"] (defScope s_side) := ⟨rfl, rfl, rfl, by decide +kernel, rfl, by decide +kernel, by decide +kernel⟩
def S_side (d : Nat) : Sx :=
  S.seq (S.ite (P.not (P.tb (P.call (f_is_side_lot (d + 1)) (P.cons (P.var d 0) (P.cons (P.var d 1) P.nil)))))
  (S.raise_ 1 ["lot"] (P.cons (P.var d 1) P.nil))
  S.skip)
  (S.seq (S.ite (P.tb (P.bin T.eq (P.bin T.band (P.var d 1) (P.c (.int 1))) (P.c (.int 1))))
  (S.ret (P.bin T.sub (P.bin T.sub (P.bin T.shl (P.c (.int 1)) (P.var d 0)) (P.c (.int 1))) (P.var d 1)))
  S.skip)
  (S.ret (P.var d 1)))
def f_side (d : Nat) (ts : List T) : Res T := run 2 (S_side d) ts
theorem ok_side {fa : Addr} {fd : FuncData} (F : FnP K "side" s_side fa fd) (hm : mg "side" = some (.ref fa)) (D_is_side_lot : Dok cl Pr w K mg base "is_side_lot" 2 2 f_is_side_lot) (p0 : cl.pin = none) (x_BadLot : Xok cl Pr w K mg base "BadLot" 1 ["lot"]) : Dok cl Pr w K mg base "side" 3 2 f_side := by
  have hN : (["many", "lot"] : List Str).Nodup := sc_side.nd
  refine dok_of (N := ["many", "lot"]) (ps := ["many", "lot"]) F sc_side rfl (by decide) p0 hm (fun _ _ => rfl) (fun _ _ _ _ _ _ us hl => match us, hl with | [_, _], _ => rfl) (fun d cdv A outer s H E hr => ?_)
  exact (db_cons (ds_if (dt_not (dt_val (de_d D_is_side_lot (hr.mono (by decide)) (da_cons (de_v 0) (da_cons (de_v 1) da_nil)) (n_cons (n_cons n_nil)))))
  (db_one (ds_raise x_BadLot (hr.mono (by decide)) (da_cons (de_v 1) da_nil)))
  db_nil)
  (db_cons (ds_if (dt_cmp (opD_eq hr.units) (de_op opD_band (de_v 1) de_int) de_int)
  (db_one (ds_ret (de_op opD_sub (de_op opD_sub (de_op opD_shl de_int (de_v 0)) de_int) (de_v 1))))
  db_nil)
  (db_one (ds_ret (de_v 1)))))
/-! ### init_Book -/
abbrev s_init_Book : Stmt := mth (top 28) 0
theorem sc_init_Book : FnScope ["self", "many", "lots", "found", "lot", "one"] ["self", "many", "lots"] (defScope s_init_Book) := ⟨rfl, rfl, rfl, by decide +kernel, rfl, by decide +kernel, by decide +kernel⟩
def S_init_Book (d : Nat) : Sx :=
  S.seq (S.new 3 (lfits P.nil))
  (S.seq (S.for_ (S.tName 4) (P.items (P.var d 2))
  (S.seq (S.asg 5 (P.call (f_side (d + 1)) (P.cons (P.var d 1) (P.cons (P.var d 4) P.nil))))
  (S.ite (P.tb (P.bin (T.isIn true) (P.var d 5) (P.var d 3)))
  (S.app 3 (P.var d 5))
  S.skip)))
  (S.seq (S.fset 6 0 "many" (P.var d 1))
  (S.frz 3 (S.fset 6 0 "sides" (P.call (fun ts => .of (B.tuple ts)) (P.cons (P.call (fun ts => .of (B.sorted ts)) (P.cons (P.var d 3) P.nil)) P.nil))))))
def f_init_Book (d : Nat) (ts : List T) : Res Fld := runI 6 6 (S_init_Book d) ts
theorem ok_init_Book {fI : Addr} {fd : FuncData} (M : Mk K (cl.f 6) fI) (hm : mg "Book" = some (.ref (cl.f 6))) (F : FunD K "__init__" "Book.__init__" (defArgs s_init_Book) (defBody s_init_Book) (defScope s_init_Book) [] [] fI fd) (D_side : Dok cl Pr w K mg base "side" 3 2 f_side) (p0 : cl.pin = none) (g_sorted : mg "sorted" = none) (g_tuple : mg "tuple" = none) (kc_Book : Cls K (cl.f 6)) (fn_many : NoAttr K (cl.f 6) "many") (fn_sides : NoAttr K (cl.f 6) "sides") : Iok cl Pr w K mg base "Book" 6 4 2 f_init_Book := by
  have hN : (["self", "many", "lots", "found", "lot", "one"] : List Str).Nodup := sc_init_Book.nd
  refine iok_of (N := ["self", "many", "lots", "found", "lot", "one"]) (ps := ["self", "many", "lots"]) M hm F sc_init_Book rfl (by decide) p0 (fun _ _ => rfl) (fun _ _ _ _ _ _ us hl => match us, hl with | [_, _, _], _ => rfl) (fun d aI cdv A outer s H E hr => ?_)
  have D_side := D_side.pin (x := some (d, aI))
  exact (db_cons (ds_new (i := 3) hN (dn_lst da_nil))
  (db_cons (ds_for po_of (di_seq (de_v 2)) (dg_name (i := 4) hN)
  (db_cons (ds_asg (i := 5) hN (de_d D_side (hr.mono (by decide)) (da_cons (de_v 1) (da_cons (de_v 4) da_nil)) (n_cons (n_cons n_nil))))
  (db_one (ds_if (dt_cmp opD_notIn (de_v 5) (de_v 3))
  (db_one (ds_app (i := 3) (de_v 5)))
  db_nil))))
  (db_cons (ds_fset (i := 0) kc_Book fn_many (de_v 1))
  (db_one (ds_frz 3 (ds_fset (i := 0) kc_Book fn_sides (de_ty crd_tuple g_tuple (by decide +kernel) (da_cons (de_b crd_sorted g_sorted (by decide +kernel) (da_cons (de_v 3) da_nil)) da_nil))))))))
/-! ### sides_cross -/
abbrev s_sides_cross : Stmt := top 11
theorem sc_sides_cross : FnScope ["many", "one", "two", "outside"] ["many", "one", "two"] (defScope s_sides_cross) := ⟨rfl, rfl, rfl, by decide +kernel, rfl, by decide +kernel, by decide +kernel⟩
def S_sides_cross (d : Nat) : Sx :=
  S.seq (S.asg 3 (P.bin T.sub (P.bin T.sub (P.bin T.shl (P.c (.int 1)) (P.var d 0)) (P.c (.int 1))) (P.bin T.bor (P.var d 1) (P.var d 2))))
  (S.ret (P.andV (P.bin T.ne (P.bin T.band (P.var d 1) (P.var d 2)) (P.c (.int 0))) (P.andV (P.bin T.ne (P.bin T.band (P.var d 1) (P.un T.inv (P.var d 2))) (P.c (.int 0))) (P.andV (P.bin T.ne (P.bin T.band (P.var d 2) (P.un T.inv (P.var d 1))) (P.c (.int 0))) (P.bin T.ne (P.var d 3) (P.c (.int 0)))))))
def f_sides_cross (d : Nat) (ts : List T) : Res T := run 4 (S_sides_cross d) ts
theorem ok_sides_cross {fa : Addr} {fd : FuncData} (F : FnP K "sides_cross" s_sides_cross fa fd) (hm : mg "sides_cross" = some (.ref fa)) (p0 : cl.pin = none) : Dok cl Pr w K mg base "sides_cross" 1 3 f_sides_cross := by
  have hN : (["many", "one", "two", "outside"] : List Str).Nodup := sc_sides_cross.nd
  refine dok_of (N := ["many", "one", "two", "outside"]) (ps := ["many", "one", "two"]) F sc_sides_cross rfl (by decide) p0 hm (fun _ _ => rfl) (fun _ _ _ _ _ _ us hl => match us, hl with | [_, _, _], _ => rfl) (fun d cdv A outer s H E hr => ?_)
  exact (db_cons (ds_asg (i := 3) hN (de_op opD_sub (de_op opD_sub (de_op opD_shl de_int (de_v 0)) de_int) (de_op opD_bor (de_v 1) (de_v 2))))
  (db_one (ds_ret (de_and (de_cmp (opD_ne hr.units) (de_op opD_band (de_v 1) (de_v 2)) de_int) (de_and (de_cmp (opD_ne hr.units) (de_op opD_band (de_v 1) (de_un unD_inv (de_v 2))) de_int) (de_and (de_cmp (opD_ne hr.units) (de_op opD_band (de_v 2) (de_un unD_inv (de_v 1))) de_int) (de_one (de_cmp (opD_ne hr.units) (de_v 3) de_int))))))))
/-! ### crossing_pairs -/
abbrev s_crossing_pairs : Stmt := top 13
theorem sc_crossing_pairs : FnScope ["book", "found", "j", "k"] ["book"] (defScope s_crossing_pairs) := ⟨rfl, rfl, rfl, by decide +kernel, rfl, by decide +kernel, by decide +kernel⟩
def S_crossing_pairs (d : Nat) : Sx :=
  S.seq (S.new 1 (lfits P.nil))
  (S.seq (S.forX (S.tName 2) (P.rng1 (P.cons (P.call (fun ts => .of (B.len ts)) (P.cons (P.un (T.fld [6] "sides") (P.var d 0)) P.nil)) P.nil))
  (S.forX (S.tName 3) (P.rng2 (P.cons (P.bin T.add (P.var d 2) (P.c (.int 1))) (P.cons (P.call (fun ts => .of (B.len ts)) (P.cons (P.un (T.fld [6] "sides") (P.var d 0)) P.nil)) P.nil)))
  (S.ite (P.tb (P.call (f_sides_cross (d + 1)) (P.cons (P.un (T.fld [6] "many") (P.var d 0)) (P.cons (P.bin T.ix (P.un (T.fld [6] "sides") (P.var d 0)) (P.var d 2)) (P.cons (P.bin T.ix (P.un (T.fld [6] "sides") (P.var d 0)) (P.var d 3)) P.nil)))))
  (S.app 1 (P.tup (P.cons (P.bin T.ix (P.un (T.fld [6] "sides") (P.var d 0)) (P.var d 2)) (P.cons (P.bin T.ix (P.un (T.fld [6] "sides") (P.var d 0)) (P.var d 3)) P.nil))))
  S.skip)))
  (S.frz 1 (S.ret (P.call (fun ts => .of (B.tuple ts)) (P.cons (P.var d 1) P.nil)))))
def f_crossing_pairs (d : Nat) (ts : List T) : Res T := run 4 (S_crossing_pairs d) ts
theorem ok_crossing_pairs {fa : Addr} {fd : FuncData} (F : FnP K "crossing_pairs" s_crossing_pairs fa fd) (hm : mg "crossing_pairs" = some (.ref fa)) (D_sides_cross : Dok cl Pr w K mg base "sides_cross" 1 3 f_sides_cross) (p0 : cl.pin = none) (g_len : mg "len" = none) (g_range : mg "range" = none) (g_tuple : mg "tuple" = none) (fo_many : FldOk K cl "many" [6]) (fo_sides : FldOk K cl "sides" [6]) : Dok cl Pr w K mg base "crossing_pairs" 2 1 f_crossing_pairs := by
  have hN : (["book", "found", "j", "k"] : List Str).Nodup := sc_crossing_pairs.nd
  refine dok_of (N := ["book", "found", "j", "k"]) (ps := ["book"]) F sc_crossing_pairs rfl (by decide) p0 hm (fun _ _ => rfl) (fun _ _ _ _ _ _ us hl => match us, hl with | [_], _ => rfl) (fun d cdv A outer s H E hr => ?_)
  exact (db_cons (ds_new (i := 1) hN (dn_lst da_nil))
  (db_cons (ds_forX po_of (dif_rng1 (da_cons (de_b crd_len g_len (by decide +kernel) (da_cons (de_attr fo_sides (de_v 0)) da_nil)) da_nil) g_range) (dg_name (i := 2) hN)
  (db_one (ds_forX po_of (dif_rng2 (da_cons (de_op opD_add (de_v 2) de_int) (da_cons (de_b crd_len g_len (by decide +kernel) (da_cons (de_attr fo_sides (de_v 0)) da_nil)) da_nil)) g_range) (dg_name (i := 3) hN)
  (db_one (ds_if (dt_val (de_d D_sides_cross (hr.mono (by decide)) (da_cons (de_attr fo_many (de_v 0)) (da_cons (de_ix (de_attr fo_sides (de_v 0)) (de_v 2)) (da_cons (de_ix (de_attr fo_sides (de_v 0)) (de_v 3)) da_nil))) (n_cons (n_cons (n_cons n_nil)))))
  (db_one (ds_app (i := 1) (de_tup (da_cons (de_ix (de_attr fo_sides (de_v 0)) (de_v 2)) (da_cons (de_ix (de_attr fo_sides (de_v 0)) (de_v 3)) da_nil)))))
  db_nil)))))
  (db_one (ds_frz 1 (ds_ret (de_ty crd_tuple g_tuple (by decide +kernel) (da_cons (de_v 1) da_nil)))))))
/-! ### check_nested -/
abbrev s_check_nested : Stmt := top 14
theorem sc_check_nested : FnScope ["book", "pairs"] ["book"] (defScope s_check_nested) := ⟨rfl, rfl, rfl, by decide +kernel, rfl, by decide +kernel, by decide +kernel⟩
def S_check_nested (d : Nat) : Sx :=
  S.seq (S.asg 1 (P.call (f_crossing_pairs (d + 1)) (P.cons (P.var d 0) P.nil)))
  (S.ite (P.tb (P.bin T.gt (P.call (fun ts => .of (B.len ts)) (P.cons (P.var d 1) P.nil)) (P.c (.int 0))))
  (S.raise_ 3 ["pair"] (P.cons (P.bin T.ix (P.var d 1) (P.c (.int 0))) P.nil))
  S.skip)
def f_check_nested (d : Nat) (ts : List T) : Res T := run 2 (S_check_nested d) ts
theorem ok_check_nested {fa : Addr} {fd : FuncData} (F : FnP K "check_nested" s_check_nested fa fd) (hm : mg "check_nested" = some (.ref fa)) (D_crossing_pairs : Dok cl Pr w K mg base "crossing_pairs" 2 1 f_crossing_pairs) (p0 : cl.pin = none) (g_len : mg "len" = none) (x_TwoCross : Xok cl Pr w K mg base "TwoCross" 3 ["pair"]) : Dok cl Pr w K mg base "check_nested" 3 1 f_check_nested := by
  have hN : (["book", "pairs"] : List Str).Nodup := sc_check_nested.nd
  refine dok_of (N := ["book", "pairs"]) (ps := ["book"]) F sc_check_nested rfl (by decide) p0 hm (fun _ _ => rfl) (fun _ _ _ _ _ _ us hl => match us, hl with | [_], _ => rfl) (fun d cdv A outer s H E hr => ?_)
  exact (db_cons (ds_asg (i := 1) hN (de_d D_crossing_pairs (hr.mono (by decide)) (da_cons (de_v 0) da_nil) (n_cons n_nil)))
  (db_one (ds_if (dt_cmp opD_gt (de_b crd_len g_len (by decide +kernel) (da_cons (de_v 1) da_nil)) de_int)
  (db_one (ds_raise x_TwoCross (hr.mono (by decide)) (da_cons (de_ix (de_v 1) de_int) da_nil)))
  db_nil)))
/-! ### members -/
abbrev s_members : Stmt := top 16
theorem sc_members : FnScope ["lot", "found", "number", "rest"] ["lot"] (defScope s_members) := ⟨rfl, rfl, rfl, by decide +kernel, rfl, by decide +kernel, by decide +kernel⟩
def S_members (d : Nat) : Sx :=
  S.seq (S.new 1 (lfits P.nil))
  (S.seq (S.asg 2 (P.c (.int 0)))
  (S.seq (S.asg 3 (P.var d 0))
  (S.seq (S.while_ (P.tb (P.bin T.gt (P.var d 3) (P.c (.int 0))))
  (S.seq (S.ite (P.tb (P.bin T.eq (P.bin T.band (P.var d 3) (P.c (.int 1))) (P.c (.int 1))))
  (S.app 1 (P.var d 2))
  S.skip)
  (S.seq (S.asg 3 (P.bin T.shr (P.var d 3) (P.c (.int 1))))
  (S.asg 2 (P.bin T.add (P.var d 2) (P.c (.int 1)))))) fuel)
  (S.frz 1 (S.ret (P.call (fun ts => .of (B.tuple ts)) (P.cons (P.var d 1) P.nil)))))))
def f_members (d : Nat) (ts : List T) : Res T := run 4 (S_members d) ts
theorem ok_members {fa : Addr} {fd : FuncData} (F : FnP K "members" s_members fa fd) (hm : mg "members" = some (.ref fa)) (p0 : cl.pin = none) (g_tuple : mg "tuple" = none) : Dok cl Pr w K mg base "members" 1 1 f_members := by
  have hN : (["lot", "found", "number", "rest"] : List Str).Nodup := sc_members.nd
  refine dok_of (N := ["lot", "found", "number", "rest"]) (ps := ["lot"]) F sc_members rfl (by decide) p0 hm (fun _ _ => rfl) (fun _ _ _ _ _ _ us hl => match us, hl with | [_], _ => rfl) (fun d cdv A outer s H E hr => ?_)
  exact (db_cons (ds_new (i := 1) hN (dn_lst da_nil))
  (db_cons (ds_asg (i := 2) hN de_int)
  (db_cons (ds_asg (i := 3) hN (de_v 0))
  (db_cons (ds_while fuel po_of (dt_cmp opD_gt (de_v 3) de_int)
  (db_cons (ds_if (dt_cmp (opD_eq hr.units) (de_op opD_band (de_v 3) de_int) de_int)
  (db_one (ds_app (i := 1) (de_v 2)))
  db_nil)
  (db_cons (ds_asg (i := 3) hN (de_op opD_shr (de_v 3) de_int))
  (db_one (ds_asg (i := 2) hN (de_op opD_add (de_v 2) de_int))))))
  (db_one (ds_frz 1 (ds_ret (de_ty crd_tuple g_tuple (by decide +kernel) (da_cons (de_v 1) da_nil)))))))))
/-! ### size -/
abbrev s_size : Stmt := top 17
theorem sc_size : FnScope ["lot"] ["lot"] (defScope s_size) := ⟨rfl, rfl, rfl, by decide +kernel, rfl, by decide +kernel, by decide +kernel⟩
def S_size (d : Nat) : Sx :=
  S.ret (P.call (fun ts => .of (B.len ts)) (P.cons (P.call (f_members (d + 1)) (P.cons (P.var d 0) P.nil)) P.nil))
def f_size (d : Nat) (ts : List T) : Res T := run 1 (S_size d) ts
theorem ok_size {fa : Addr} {fd : FuncData} (F : FnP K "size" s_size fa fd) (hm : mg "size" = some (.ref fa)) (D_members : Dok cl Pr w K mg base "members" 1 1 f_members) (p0 : cl.pin = none) (g_len : mg "len" = none) : Dok cl Pr w K mg base "size" 2 1 f_size := by
  have hN : (["lot"] : List Str).Nodup := sc_size.nd
  refine dok_of (N := ["lot"]) (ps := ["lot"]) F sc_size rfl (by decide) p0 hm (fun _ _ => rfl) (fun _ _ _ _ _ _ us hl => match us, hl with | [_], _ => rfl) (fun d cdv A outer s H E hr => ?_)
  exact (db_one (ds_ret (de_b crd_len g_len (by decide +kernel) (da_cons (de_d D_members (hr.mono (by decide)) (da_cons (de_v 0) da_nil) (n_cons n_nil)) da_nil))))
/-! ### smallest_with -/
abbrev s_smallest_with : Stmt := top 22
theorem sc_smallest_with : FnScope ["lots", "lot", "found", "k"] ["lots", "lot"] (defScope s_smallest_with) := ⟨rfl, rfl, rfl, by decide +kernel, rfl, by decide +kernel, by decide +kernel⟩
def S_smallest_with (d : Nat) : Sx :=
  S.seq (S.asg 2 (P.c (.int 0)))
  (S.seq (S.forX (S.tName 3) (P.rng1 (P.cons (P.call (fun ts => .of (B.len ts)) (P.cons (P.var d 0) P.nil)) P.nil))
  (S.ite (P.and (P.tb (P.bin T.ne (P.bin T.ix (P.var d 0) (P.var d 3)) (P.var d 1))) (P.and (P.tb (P.bin T.eq (P.bin T.band (P.bin T.ix (P.var d 0) (P.var d 3)) (P.var d 1)) (P.var d 1))) (P.or (P.tb (P.bin T.eq (P.var d 2) (P.c (.int 0)))) (P.tb (P.bin T.lt (P.call (f_size (d + 1)) (P.cons (P.bin T.ix (P.var d 0) (P.var d 3)) P.nil)) (P.call (f_size (d + 1)) (P.cons (P.bin T.ix (P.var d 0) (P.bin T.sub (P.var d 2) (P.c (.int 1)))) P.nil)))))))
  (S.asg 2 (P.bin T.add (P.var d 3) (P.c (.int 1))))
  S.skip))
  (S.ret (P.var d 2)))
def f_smallest_with (d : Nat) (ts : List T) : Res T := run 4 (S_smallest_with d) ts
theorem ok_smallest_with {fa : Addr} {fd : FuncData} (F : FnP K "smallest_with" s_smallest_with fa fd) (hm : mg "smallest_with" = some (.ref fa)) (D_size : Dok cl Pr w K mg base "size" 2 1 f_size) (p0 : cl.pin = none) (g_len : mg "len" = none) (g_range : mg "range" = none) : Dok cl Pr w K mg base "smallest_with" 3 2 f_smallest_with := by
  have hN : (["lots", "lot", "found", "k"] : List Str).Nodup := sc_smallest_with.nd
  refine dok_of (N := ["lots", "lot", "found", "k"]) (ps := ["lots", "lot"]) F sc_smallest_with rfl (by decide) p0 hm (fun _ _ => rfl) (fun _ _ _ _ _ _ us hl => match us, hl with | [_, _], _ => rfl) (fun d cdv A outer s H E hr => ?_)
  exact (db_cons (ds_asg (i := 2) hN de_int)
  (db_cons (ds_forX po_of (dif_rng1 (da_cons (de_b crd_len g_len (by decide +kernel) (da_cons (de_v 0) da_nil)) da_nil) g_range) (dg_name (i := 3) hN)
  (db_one (ds_if (dt_w (dw_and (dt_cmp (opD_ne hr.units) (de_ix (de_v 0) (de_v 3)) (de_v 1)) (dw_and (dt_cmp (opD_eq hr.units) (de_op opD_band (de_ix (de_v 0) (de_v 3)) (de_v 1)) (de_v 1)) (dw_and1 (dt_w (dw_or (dt_cmp (opD_eq hr.units) (de_v 2) de_int) (dw_or1 (dt_cmp opD_lt (de_d D_size (hr.mono (by decide)) (da_cons (de_ix (de_v 0) (de_v 3)) da_nil) (n_cons n_nil)) (de_d D_size (hr.mono (by decide)) (da_cons (de_ix (de_v 0) (de_op opD_sub (de_v 2) de_int)) da_nil) (n_cons n_nil))))))))))
  (db_one (ds_asg (i := 2) hN (de_op opD_add (de_v 3) de_int)))
  db_nil)))
  (db_one (ds_ret (de_v 2)))))
/-! ### has -/
abbrev s_has : Stmt := top 18
theorem sc_has : FnScope ["lot", "number"] ["lot", "number"] (defScope s_has) := ⟨rfl, rfl, rfl, by decide +kernel, rfl, by decide +kernel, by decide +kernel⟩
def S_has (d : Nat) : Sx :=
  S.ret (P.bin T.eq (P.bin T.band (P.bin T.shr (P.var d 0) (P.var d 1)) (P.c (.int 1))) (P.c (.int 1)))
def f_has (d : Nat) (ts : List T) : Res T := run 2 (S_has d) ts
theorem ok_has {fa : Addr} {fd : FuncData} (F : FnP K "has" s_has fa fd) (hm : mg "has" = some (.ref fa)) (p0 : cl.pin = none) : Dok cl Pr w K mg base "has" 1 2 f_has := by
  have hN : (["lot", "number"] : List Str).Nodup := sc_has.nd
  refine dok_of (N := ["lot", "number"]) (ps := ["lot", "number"]) F sc_has rfl (by decide) p0 hm (fun _ _ => rfl) (fun _ _ _ _ _ _ us hl => match us, hl with | [_, _], _ => rfl) (fun d cdv A outer s H E hr => ?_)
  exact (db_one (ds_ret (de_cmp (opD_eq hr.units) (de_op opD_band (de_op opD_shr (de_v 0) (de_v 1)) de_int) de_int)))
/-! ### smallest_holding -/
abbrev s_smallest_holding : Stmt := top 23
theorem sc_smallest_holding : FnScope ["sides", "lots", "place", "found", "k"] ["sides", "lots", "place"] (defScope s_smallest_holding) := ⟨rfl, rfl, rfl, by decide +kernel, rfl, by decide +kernel, by decide +kernel⟩
def S_smallest_holding (d : Nat) : Sx :=
  S.seq (S.asg 3 (P.c (.int 0)))
  (S.seq (S.forX (S.tName 4) (P.rng1 (P.cons (P.call (fun ts => .of (B.len ts)) (P.cons (P.var d 1) P.nil)) P.nil))
  (S.ite (P.and (P.tb (P.call (f_has (d + 1)) (P.cons (P.bin T.ix (P.var d 1) (P.var d 4)) (P.cons (P.var d 2) P.nil)))) (P.or (P.tb (P.bin T.eq (P.var d 3) (P.c (.int 0)))) (P.tb (P.bin T.lt (P.call (f_size (d + 1)) (P.cons (P.bin T.ix (P.var d 0) (P.var d 4)) P.nil)) (P.call (f_size (d + 1)) (P.cons (P.bin T.ix (P.var d 0) (P.bin T.sub (P.var d 3) (P.c (.int 1)))) P.nil))))))
  (S.asg 3 (P.bin T.add (P.var d 4) (P.c (.int 1))))
  S.skip))
  (S.ret (P.var d 3)))
def f_smallest_holding (d : Nat) (ts : List T) : Res T := run 5 (S_smallest_holding d) ts
theorem ok_smallest_holding {fa : Addr} {fd : FuncData} (F : FnP K "smallest_holding" s_smallest_holding fa fd) (hm : mg "smallest_holding" = some (.ref fa)) (D_has : Dok cl Pr w K mg base "has" 1 2 f_has) (D_size : Dok cl Pr w K mg base "size" 2 1 f_size) (p0 : cl.pin = none) (g_len : mg "len" = none) (g_range : mg "range" = none) : Dok cl Pr w K mg base "smallest_holding" 3 3 f_smallest_holding := by
  have hN : (["sides", "lots", "place", "found", "k"] : List Str).Nodup := sc_smallest_holding.nd
  refine dok_of (N := ["sides", "lots", "place", "found", "k"]) (ps := ["sides", "lots", "place"]) F sc_smallest_holding rfl (by decide) p0 hm (fun _ _ => rfl) (fun _ _ _ _ _ _ us hl => match us, hl with | [_, _, _], _ => rfl) (fun d cdv A outer s H E hr => ?_)
  exact (db_cons (ds_asg (i := 3) hN de_int)
  (db_cons (ds_forX po_of (dif_rng1 (da_cons (de_b crd_len g_len (by decide +kernel) (da_cons (de_v 1) da_nil)) da_nil) g_range) (dg_name (i := 4) hN)
  (db_one (ds_if (dt_w (dw_and (dt_val (de_d D_has (hr.mono (by decide)) (da_cons (de_ix (de_v 1) (de_v 4)) (da_cons (de_v 2) da_nil)) (n_cons (n_cons n_nil)))) (dw_and1 (dt_w (dw_or (dt_cmp (opD_eq hr.units) (de_v 3) de_int) (dw_or1 (dt_cmp opD_lt (de_d D_size (hr.mono (by decide)) (da_cons (de_ix (de_v 0) (de_v 4)) da_nil) (n_cons n_nil)) (de_d D_size (hr.mono (by decide)) (da_cons (de_ix (de_v 0) (de_op opD_sub (de_v 3) de_int)) da_nil) (n_cons n_nil)))))))))
  (db_one (ds_asg (i := 3) hN (de_op opD_add (de_v 4) de_int)))
  db_nil)))
  (db_one (ds_ret (de_v 3)))))
/-! ### init_Tree -/
abbrev s_init_Tree : Stmt := mth (top 20) 0
theorem sc_init_Tree : FnScope ["self", "book", "parents", "gate_nodes"] ["self", "book", "parents", "gate_nodes"] (defScope s_init_Tree) := ⟨rfl, rfl, rfl, by decide +kernel, rfl, by decide +kernel, by decide +kernel⟩
def S_init_Tree (d : Nat) : Sx :=
  S.seq (S.fset 5 0 "book" (P.var d 1))
  (S.seq (S.fset 5 0 "parents" (P.var d 2))
  (S.fset 5 0 "gate_nodes" (P.var d 3)))
def f_init_Tree (d : Nat) (ts : List T) : Res Fld := runI 4 5 (S_init_Tree d) ts
theorem ok_init_Tree {fI : Addr} {fd : FuncData} (M : Mk K (cl.f 5) fI) (hm : mg "Tree" = some (.ref (cl.f 5))) (F : FunD K "__init__" "Tree.__init__" (defArgs s_init_Tree) (defBody s_init_Tree) (defScope s_init_Tree) [] [] fI fd) (p0 : cl.pin = none) (kc_Tree : Cls K (cl.f 5)) (fn_book : NoAttr K (cl.f 5) "book") (fn_gate_nodes : NoAttr K (cl.f 5) "gate_nodes") (fn_parents : NoAttr K (cl.f 5) "parents") : Iok cl Pr w K mg base "Tree" 5 1 3 f_init_Tree := by
  have hN : (["self", "book", "parents", "gate_nodes"] : List Str).Nodup := sc_init_Tree.nd
  refine iok_of (N := ["self", "book", "parents", "gate_nodes"]) (ps := ["self", "book", "parents", "gate_nodes"]) M hm F sc_init_Tree rfl (by decide) p0 (fun _ _ => rfl) (fun _ _ _ _ _ _ us hl => match us, hl with | [_, _, _, _], _ => rfl) (fun d aI cdv A outer s H E hr => ?_)
  exact (db_cons (ds_fset (i := 0) kc_Tree fn_book (de_v 1))
  (db_cons (ds_fset (i := 0) kc_Tree fn_parents (de_v 2))
  (db_one (ds_fset (i := 0) kc_Tree fn_gate_nodes (de_v 3)))))
/-! ### tree_of -/
abbrev s_tree_of : Stmt := top 24
theorem sc_tree_of : FnScope ["book", "parents", "nodes", "lot", "gate"] ["book"] (defScope s_tree_of) := ⟨rfl, rfl, rfl, by decide +kernel, rfl, by decide +kernel, by decide +kernel⟩
def S_tree_of (d : Nat) : Sx :=
  S.seq (S.exprY (P.call (f_check_nested (d + 1)) (P.cons (P.var d 0) P.nil)))
  (S.seq (S.asg 1 (P.bin T.add (P.lst (P.cons (P.c .non) P.nil)) (P.lc [3] (S.tName 3) (P.items (P.un (T.fld [6] "sides") (P.var d 0))) P.yes (P.call (f_smallest_with (d + 1)) (P.cons (P.un (T.fld [6] "sides") (P.var d 0)) (P.cons (P.var d 3) P.nil))))))
  (S.seq (S.asg 2 (P.lc [4] (S.tName 4) (P.rng1 (P.cons (P.un (T.fld [6] "many") (P.var d 0)) P.nil)) P.yes (P.call (f_smallest_holding (d + 1)) (P.cons (P.un (T.fld [6] "sides") (P.var d 0)) (P.cons (P.un (T.fld [6] "sides") (P.var d 0)) (P.cons (P.var d 4) P.nil))))))
  (S.ret (P.make 5 (f_init_Tree (d + 1)) (P.cons (P.var d 0) (P.cons (P.call (fun ts => .of (B.tuple ts)) (P.cons (P.var d 1) P.nil)) (P.cons (P.call (fun ts => .of (B.tuple ts)) (P.cons (P.var d 2) P.nil)) P.nil)))))))
def f_tree_of (d : Nat) (ts : List T) : Res T := run 5 (S_tree_of d) ts
theorem ok_tree_of {fa : Addr} {fd : FuncData} (F : FnP K "tree_of" s_tree_of fa fd) (hm : mg "tree_of" = some (.ref fa)) (D_check_nested : Dok cl Pr w K mg base "check_nested" 3 1 f_check_nested) (D_smallest_holding : Dok cl Pr w K mg base "smallest_holding" 3 3 f_smallest_holding) (D_smallest_with : Dok cl Pr w K mg base "smallest_with" 3 2 f_smallest_with) (I_Tree : Iok cl Pr w K mg base "Tree" 5 1 3 f_init_Tree) (p0 : cl.pin = none) (g_range : mg "range" = none) (g_tuple : mg "tuple" = none) (fo_many : FldOk K cl "many" [6]) (fo_sides : FldOk K cl "sides" [6]) : Dok cl Pr w K mg base "tree_of" 4 1 f_tree_of := by
  have hN : (["book", "parents", "nodes", "lot", "gate"] : List Str).Nodup := sc_tree_of.nd
  refine dok_of (N := ["book", "parents", "nodes", "lot", "gate"]) (ps := ["book"]) F sc_tree_of rfl (by decide) p0 hm (fun _ _ => rfl) (fun _ _ _ _ _ _ us hl => match us, hl with | [_], _ => rfl) (fun d cdv A outer s H E hr => ?_)
  exact (db_cons (ds_exprY (de_d D_check_nested (hr.mono (by decide)) (da_cons (de_v 0) da_nil) (n_cons n_nil)))
  (db_cons (ds_asg (i := 1) hN (de_op opD_add (de_lst (da_cons de_non da_nil)) (DN.de (dn_lc hN (di_seq (de_attr fo_sides (de_v 0))) (blkOk_by (own := [("lot", 3)]) (by rfl)) (fun _ _ _ _ _ => dc_name (i := 3) (by decide) hN) (fun _ _ _ _ _ => dts_nil) (fun _ _ _ _ _ => de_d D_smallest_with (hr.mono (by decide)) (da_cons (de_attr fo_sides (de_v 0)) (da_cons (de_v 3) da_nil)) (n_cons (n_cons n_nil)))))))
  (db_cons (ds_asgLc (i := 2) hN (DIF.di (dif_rng1 (da_cons (de_attr fo_many (de_v 0)) da_nil) g_range)) (blkOk_by (own := [("gate", 4)]) (by rfl)) (fun _ _ _ _ _ => dc_name (i := 4) (by decide) hN) (fun _ _ _ _ _ => dts_nil) (fun _ _ _ _ _ => de_d D_smallest_holding (hr.mono (by decide)) (da_cons (de_attr fo_sides (de_v 0)) (da_cons (de_attr fo_sides (de_v 0)) (da_cons (de_v 4) da_nil))) (n_cons (n_cons (n_cons n_nil)))) (sw_true rfl rfl rfl (by decide +kernel)))
  (db_one (ds_ret (de_make I_Tree (hr.mono (by decide)) (da_cons (de_v 0) (da_cons (de_ty crd_tuple g_tuple (by decide +kernel) (da_cons (de_v 1) da_nil)) (da_cons (de_ty crd_tuple g_tuple (by decide +kernel) (da_cons (de_v 2) da_nil)) da_nil))) (n_cons (n_cons (n_cons n_nil)))))))))
/-! ### _law_refused -/
def tab_ThreeCross : Nat → Option Bool := fun n => ([(0, false), (1, false), (2, true), (3, false), (4, false)] : List (Nat × Bool)).lookup n
def tab_TownError : Nat → Option Bool := fun n => ([(0, true), (1, true), (2, true), (3, true), (4, true)] : List (Nat × Bool)).lookup n
def tab_TwoCross : Nat → Option Bool := fun n => ([(0, false), (1, false), (2, false), (3, true), (4, false)] : List (Nat × Bool)).lookup n
abbrev s__law_refused : Stmt := top 44
theorem sc__law_refused : FnScope ["book", "e"] ["book"] (defScope s__law_refused) := ⟨rfl, rfl, rfl, by decide +kernel, rfl, by decide +kernel, by decide +kernel⟩
def S__law_refused (d : Nat) : Sx :=
  S.seq (S.try_ tab_TwoCross 1 (S.exprY (P.call (f_tree_of (d + 1)) (P.cons (P.var d 0) P.nil)))
  (S.ite (P.and (P.tb (P.un (T.isx (tab_TownError)) (P.var d 1))) (P.not (P.tb (P.un (T.isx (tab_ThreeCross)) (P.var d 1)))))
  (S.ret (P.un (T.xf 3 "pair") (P.var d 1)))
  S.skip))
  (S.ret (P.c .non))
def f__law_refused (d : Nat) (ts : List T) : Res T := run 2 (S__law_refused d) ts
theorem ok__law_refused {fa : Addr} {fd : FuncData} (F : FnP K "_law_refused" s__law_refused fa fd) (hm : mg "_law_refused" = some (.ref fa)) (D_tree_of : Dok cl Pr w K mg base "tree_of" 4 1 f_tree_of) (p0 : cl.pin = none) (g_isinstance : mg "isinstance" = none) (m_ThreeCross : mg "ThreeCross" = some (.ref (cl.f 2))) (m_TownError : mg "TownError" = some (.ref (cl.f 0))) (m_TwoCross : mg "TwoCross" = some (.ref (cl.f 3))) (e_TwoCross : ∀ n b, tab_TwoCross n = some b → PySem.W.exmOne K (.ref (cl.f n)) (.ref (cl.f 3)) = some b) (i_ThreeCross : ∀ n b, tab_ThreeCross n = some b → IsC K (cl.f n) ∧ PySem.W.kitOne K (.ref (cl.f n)) (.ref (cl.f 2)) = some b) (i_TownError : ∀ n b, tab_TownError n = some b → IsC K (cl.f n) ∧ PySem.W.kitOne K (.ref (cl.f n)) (.ref (cl.f 0)) = some b) (xf_TwoCross : XfC K (cl.f 3)) (na_TwoCross_pair : PySem.W.findIn K (.ref (cl.f 3)) "pair" = some none) (h0 : cl.xh = none) : Dok cl Pr w K mg base "_law_refused" 5 1 f__law_refused := by
  have hN : (["book", "e"] : List Str).Nodup := sc__law_refused.nd
  refine dok_of (N := ["book", "e"]) (ps := ["book"]) F sc__law_refused rfl (by decide) p0 hm (fun _ _ => rfl) (fun _ _ _ _ _ _ us hl => match us, hl with | [_], _ => rfl) (fun d cdv A outer s H E hr => ?_)
  exact (db_cons (ds_try (i := 1) hN ⟨rfl, by decide, .inl m_TwoCross⟩ e_TwoCross (fun W' pn xe t po => db_one (ds_exprY (de_d D_tree_of (hr.mono (by decide)) (da_cons (de_v 0) da_nil) (n_cons n_nil) (tk := t)))) (fun a oe cls dx pn hz hf => db_one (ds_if (dt_w (dw_and (dt_val (de_isX g_isinstance (NC.own m_TownError) i_TownError hz hf (de_v 1))) (dw_and1 (dt_not (dt_val (de_isX g_isinstance (NC.own m_ThreeCross) i_ThreeCross hz hf (de_v 1)))))))
  (db_one (ds_ret (de_xf xf_TwoCross na_TwoCross_pair hz hf (de_v 1))))
  db_nil)) tk_of h0)
  (db_one (ds_ret de_non)))
/-! ### meth_Book___eq__ -/
def tabk_Book : List (TyK × Bool) := [(.inl "NoneType", false), (.inl "bool", false), (.inl "int", false), (.inl "str", false), (.inl "list", false), (.inl "tuple", false), (.inr 5, false), (.inr 6, true)]
abbrev s_meth_Book___eq__ : Stmt := mth (top 28) 4
theorem sc_meth_Book___eq__ : FnScope ["self", "other"] ["self", "other"] (defScope s_meth_Book___eq__) := ⟨rfl, rfl, rfl, by decide +kernel, rfl, by decide +kernel, by decide +kernel⟩
def S_meth_Book___eq__ (d : Nat) : Sx :=
  S.seq (S.ite (P.not (P.tb (P.un (T.isk (lookK tabk_Book)) (P.var d 1))))
  (S.ret (P.c (.bl false)))
  S.skip)
  (S.ret (P.andV (P.bin T.eq (P.un (T.fld [6] "many") (P.var d 0)) (P.un (T.fld [6] "many") (P.var d 1))) (P.bin T.eq (P.un (T.fld [6] "sides") (P.var d 0)) (P.un (T.fld [6] "sides") (P.var d 1)))))
def f_meth_Book___eq__ (d : Nat) (ts : List T) : Res T := run 2 (S_meth_Book___eq__ d) ts
theorem ok_meth_Book___eq__ {fI : Addr} {fd : FuncData} (M : Meth K (cl.f 6) "__eq__" fI) (F : FunD K "__eq__" "Book.__eq__" (defArgs s_meth_Book___eq__) (defBody s_meth_Book___eq__) (defScope s_meth_Book___eq__) [] [] fI fd) (p0 : cl.pin = none) (g_isinstance : mg "isinstance" = none) (ik_Book : InsAll K cl (lookK tabk_Book)) (tk_Book : ∀ n b, lookK tabk_Book n = some b → PySem.W.kitOne K (tyVal cl n) (.ref (cl.f 6)) = some b) (fo_many : FldOk K cl "many" [6]) (fo_sides : FldOk K cl "sides" [6]) (m_Book : mg "Book" = some (.ref (cl.f 6))) : Mok cl Pr w K mg base "__eq__" 6 1 2 f_meth_Book___eq__ := by
  have hN : (["self", "other"] : List Str).Nodup := sc_meth_Book___eq__.nd
  refine mok_of (N := ["self", "other"]) (ps := ["self", "other"]) M F sc_meth_Book___eq__ rfl (by decide) p0 (fun _ _ => rfl) (fun _ _ _ _ _ _ us hl => match us, hl with | [_, _], _ => rfl) (fun d cdv A outer s H E hr => ?_)
  exact (db_cons (ds_if (dt_not (dt_val (de_isk g_isinstance (NC.own m_Book) ik_Book tk_Book (de_v 1))))
  (db_one (ds_ret de_bl))
  db_nil)
  (db_one (ds_ret (de_and (de_cmp (opD_eq hr.units) (de_attr fo_many (de_v 0)) (de_attr fo_many (de_v 1))) (de_one (de_cmp (opD_eq hr.units) (de_attr fo_sides (de_v 0)) (de_attr fo_sides (de_v 1))))))))
/-! ### meth_Book___ne__ -/
abbrev s_meth_Book___ne__ : Stmt := mth (top 28) 5
theorem sc_meth_Book___ne__ : FnScope ["self", "other"] ["self", "other"] (defScope s_meth_Book___ne__) := ⟨rfl, rfl, rfl, by decide +kernel, rfl, by decide +kernel, by decide +kernel⟩
def S_meth_Book___ne__ (d : Nat) : Sx :=
  S.ret (P.notV (P.bin (T.cmpM 6 (f_meth_Book___eq__ 0)) (P.var d 0) (P.var d 1)))
def f_meth_Book___ne__ (d : Nat) (ts : List T) : Res T := run 2 (S_meth_Book___ne__ d) ts
theorem ok_meth_Book___ne__ {fI : Addr} {fd : FuncData} (M : Meth K (cl.f 6) "__ne__" fI) (F : FunD K "__ne__" "Book.__ne__" (defArgs s_meth_Book___ne__) (defBody s_meth_Book___ne__) (defScope s_meth_Book___ne__) [] [] fI fd) (M_Book___eq__ : Mok cl Pr w K mg base "__eq__" 6 1 2 f_meth_Book___eq__) (p0 : cl.pin = none) : Mok cl Pr w K mg base "__ne__" 6 2 2 f_meth_Book___ne__ := by
  have hN : (["self", "other"] : List Str).Nodup := sc_meth_Book___ne__.nd
  refine mok_of (N := ["self", "other"]) (ps := ["self", "other"]) M F sc_meth_Book___ne__ rfl (by decide) p0 (fun _ _ => rfl) (fun _ _ _ _ _ _ us hl => match us, hl with | [_, _], _ => rfl) (fun d cdv A outer s H E hr => ?_)
  exact (db_one (ds_ret (de_not (de_cmp (opD_cmpM M_Book___eq__ (hr.mono (by decide))) (de_v 0) (de_v 1)))))
/-! ### _law_members -/
abbrev s__law_members : Stmt := top 35
theorem sc__law_members : FnScope ["lot", "n", "k"] ["lot", "n"] (defScope s__law_members) := ⟨rfl, rfl, rfl, by decide +kernel, rfl, by decide +kernel, by decide +kernel⟩
def S__law_members (d : Nat) : Sx :=
  S.ret (P.lc [2] (S.tName 2) (P.rng1 (P.cons (P.var d 1) P.nil)) (P.tb (P.bin T.eq (P.call (f__law_bit (d + 1)) (P.cons (P.var d 0) (P.cons (P.var d 2) P.nil))) (P.c (.int 1)))) (P.var d 2))
def f__law_members (d : Nat) (ts : List T) : Res T := run 3 (S__law_members d) ts
theorem ok__law_members {fa : Addr} {fd : FuncData} (F : FnP K "_law_members" s__law_members fa fd) (hm : mg "_law_members" = some (.ref fa)) (D__law_bit : Dok cl Pr w K mg base "_law_bit" 1 2 f__law_bit) (p0 : cl.pin = none) (g_range : mg "range" = none) : Dok cl Pr w K mg base "_law_members" 2 2 f__law_members := by
  have hN : (["lot", "n", "k"] : List Str).Nodup := sc__law_members.nd
  refine dok_of (N := ["lot", "n", "k"]) (ps := ["lot", "n"]) F sc__law_members rfl (by decide) p0 hm (fun _ _ => rfl) (fun _ _ _ _ _ _ us hl => match us, hl with | [_, _], _ => rfl) (fun d cdv A outer s H E hr => ?_)
  exact (db_one (ds_ret (DN.de (dn_lc hN (DIF.di (dif_rng1 (da_cons (de_v 1) da_nil) g_range)) (blkOk_by (own := [("k", 2)]) (by rfl)) (fun _ _ _ _ _ => dc_name (i := 2) (by decide) hN) (fun _ _ _ _ _ => dts_one (dt_cmp (opD_eq hr.units) (de_d D__law_bit (hr.mono (by decide)) (da_cons (de_v 0) (da_cons (de_v 2) da_nil)) (n_cons (n_cons n_nil))) de_int)) (fun _ _ _ _ _ => de_v 2)))))
/-! ### _law_count -/
abbrev s__law_count : Stmt := top 41
theorem sc__law_count : FnScope ["lot"] ["lot"] (defScope s__law_count) := ⟨rfl, rfl, rfl, by decide +kernel, rfl, by decide +kernel, by decide +kernel⟩
def S__law_count (d : Nat) : Sx :=
  S.ret (P.call (fun ts => .of (B.len ts)) (P.cons (P.call (f__law_members (d + 1)) (P.cons (P.var d 0) (P.cons (P.c (.int 6)) P.nil))) P.nil))
def f__law_count (d : Nat) (ts : List T) : Res T := run 1 (S__law_count d) ts
theorem ok__law_count {fa : Addr} {fd : FuncData} (F : FnP K "_law_count" s__law_count fa fd) (hm : mg "_law_count" = some (.ref fa)) (D__law_members : Dok cl Pr w K mg base "_law_members" 2 2 f__law_members) (p0 : cl.pin = none) (g_len : mg "len" = none) : Dok cl Pr w K mg base "_law_count" 3 1 f__law_count := by
  have hN : (["lot"] : List Str).Nodup := sc__law_count.nd
  refine dok_of (N := ["lot"]) (ps := ["lot"]) F sc__law_count rfl (by decide) p0 hm (fun _ _ => rfl) (fun _ _ _ _ _ _ us hl => match us, hl with | [_], _ => rfl) (fun d cdv A outer s H E hr => ?_)
  exact (db_one (ds_ret (de_b crd_len g_len (by decide +kernel) (da_cons (de_d D__law_members (hr.mono (by decide)) (da_cons (de_v 0) (da_cons de_int da_nil)) (n_cons (n_cons n_nil))) da_nil))))
/-! ### _law_above -/
abbrev s__law_above : Stmt := top 42
theorem sc__law_above : FnScope ["sides", "lot", "itself", "found", "k", "held", "gate"] ["sides", "lot", "itself"] (defScope s__law_above) := ⟨rfl, rfl, rfl, by decide +kernel, rfl, by decide +kernel, by decide +kernel⟩
def S__law_above (d : Nat) : Sx :=
  S.seq (S.asg 3 (P.c (.int 0)))
  (S.seq (S.forX (S.tName 4) (P.rng1 (P.cons (P.call (fun ts => .of (B.len ts)) (P.cons (P.var d 0) P.nil)) P.nil))
  (S.seq (S.asg 5 (P.bin T.eq (P.call (fun ts => .of (B.len ts)) (P.cons (P.lc [6] (S.tName 6) (P.rng1 (P.cons (P.c (.int 6)) P.nil)) (P.and (P.tb (P.bin T.eq (P.call (f__law_bit (d + 1)) (P.cons (P.var d 1) (P.cons (P.var d 6) P.nil))) (P.c (.int 1)))) (P.tb (P.bin T.eq (P.call (f__law_bit (d + 1)) (P.cons (P.bin T.ix (P.var d 0) (P.var d 4)) (P.cons (P.var d 6) P.nil))) (P.c (.int 0))))) (P.var d 6)) P.nil)) (P.c (.int 0))))
  (S.ite (P.and (P.tb (P.var d 5)) (P.or (P.tb (P.var d 2)) (P.tb (P.bin T.ne (P.bin T.ix (P.var d 0) (P.var d 4)) (P.var d 1)))))
  (S.ite (P.or (P.tb (P.bin T.eq (P.var d 3) (P.c (.int 0)))) (P.tb (P.bin T.lt (P.call (f__law_count (d + 1)) (P.cons (P.bin T.ix (P.var d 0) (P.var d 4)) P.nil)) (P.call (f__law_count (d + 1)) (P.cons (P.bin T.ix (P.var d 0) (P.bin T.sub (P.var d 3) (P.c (.int 1)))) P.nil)))))
  (S.asg 3 (P.bin T.add (P.var d 4) (P.c (.int 1))))
  S.skip)
  S.skip)))
  (S.ret (P.var d 3)))
def f__law_above (d : Nat) (ts : List T) : Res T := run 7 (S__law_above d) ts
theorem ok__law_above {fa : Addr} {fd : FuncData} (F : FnP K "_law_above" s__law_above fa fd) (hm : mg "_law_above" = some (.ref fa)) (D__law_bit : Dok cl Pr w K mg base "_law_bit" 1 2 f__law_bit) (D__law_count : Dok cl Pr w K mg base "_law_count" 3 1 f__law_count) (p0 : cl.pin = none) (g_len : mg "len" = none) (g_range : mg "range" = none) : Dok cl Pr w K mg base "_law_above" 4 3 f__law_above := by
  have hN : (["sides", "lot", "itself", "found", "k", "held", "gate"] : List Str).Nodup := sc__law_above.nd
  refine dok_of (N := ["sides", "lot", "itself", "found", "k", "held", "gate"]) (ps := ["sides", "lot", "itself"]) F sc__law_above rfl (by decide) p0 hm (fun _ _ => rfl) (fun _ _ _ _ _ _ us hl => match us, hl with | [_, _, _], _ => rfl) (fun d cdv A outer s H E hr => ?_)
  exact (db_cons (ds_asg (i := 3) hN de_int)
  (db_cons (ds_forX po_of (dif_rng1 (da_cons (de_b crd_len g_len (by decide +kernel) (da_cons (de_v 0) da_nil)) da_nil) g_range) (dg_name (i := 4) hN)
  (db_cons (ds_asg (i := 5) hN (de_cmp (opD_eq hr.units) (de_b crd_len g_len (by decide +kernel) (da_cons (DN.de (dn_lc hN (DIF.di (dif_rng1 (da_cons de_int da_nil) g_range)) (blkOk_by (own := [("gate", 6)]) (by rfl)) (fun _ _ _ _ _ => dc_name (i := 6) (by decide) hN) (fun _ _ _ _ _ => dts_one (dt_w (dw_and (dt_cmp (opD_eq hr.units) (de_d D__law_bit (hr.mono (by decide)) (da_cons (de_v 1) (da_cons (de_v 6) da_nil)) (n_cons (n_cons n_nil))) de_int) (dw_and1 (dt_cmp (opD_eq hr.units) (de_d D__law_bit (hr.mono (by decide)) (da_cons (de_ix (de_v 0) (de_v 4)) (da_cons (de_v 6) da_nil)) (n_cons (n_cons n_nil))) de_int))))) (fun _ _ _ _ _ => de_v 6))) da_nil)) de_int))
  (db_one (ds_if (dt_w (dw_and (dt_val (de_v 5)) (dw_and1 (dt_w (dw_or (dt_val (de_v 2)) (dw_or1 (dt_cmp (opD_ne hr.units) (de_ix (de_v 0) (de_v 4)) (de_v 1))))))))
  (db_one (ds_if (dt_w (dw_or (dt_cmp (opD_eq hr.units) (de_v 3) de_int) (dw_or1 (dt_cmp opD_lt (de_d D__law_count (hr.mono (by decide)) (da_cons (de_ix (de_v 0) (de_v 4)) da_nil) (n_cons n_nil)) (de_d D__law_count (hr.mono (by decide)) (da_cons (de_ix (de_v 0) (de_op opD_sub (de_v 3) de_int)) da_nil) (n_cons n_nil))))))
  (db_one (ds_asg (i := 3) hN (de_op opD_add (de_v 4) de_int)))
  db_nil))
  db_nil))))
  (db_one (ds_ret (de_v 3)))))
/-! ### _law_whole -/
abbrev s__law_whole : Stmt := top 31
theorem sc__law_whole : FnScope ["value"] ["value"] (defScope s__law_whole) := ⟨rfl, rfl, rfl, by decide +kernel, rfl, by decide +kernel, by decide +kernel⟩
def S__law_whole (d : Nat) : Sx :=
  S.ret (P.andV (P.un (T.isi "int") (P.var d 0)) (P.notV (P.un (T.isi "bool") (P.var d 0))))
def f__law_whole (d : Nat) (ts : List T) : Res T := run 1 (S__law_whole d) ts
theorem ok__law_whole {fa : Addr} {fd : FuncData} (F : FnP K "_law_whole" s__law_whole fa fd) (hm : mg "_law_whole" = some (.ref fa)) (p0 : cl.pin = none) (g_bool : mg "bool" = none) (g_int : mg "int" = none) (g_isinstance : mg "isinstance" = none) : Dok cl Pr w K mg base "_law_whole" 1 1 f__law_whole := by
  have hN : (["value"] : List Str).Nodup := sc__law_whole.nd
  refine dok_of (N := ["value"]) (ps := ["value"]) F sc__law_whole rfl (by decide) p0 hm (fun _ _ => rfl) (fun _ _ _ _ _ _ us hl => match us, hl with | [_], _ => rfl) (fun d cdv A outer s H E hr => ?_)
  exact (db_one (ds_ret (de_and (de_isi g_isinstance g_int (by decide +kernel) (de_v 0)) (de_one (de_not (de_isi g_isinstance g_bool (by decide +kernel) (de_v 0)))))))
/-! ### _law_line -/
abbrev s__law_line : Stmt := top 43
theorem sc__law_line : FnScope ["parents", "node", "found", "at", "turn"] ["parents", "node"] (defScope s__law_line) := ⟨rfl, rfl, rfl, by decide +kernel, rfl, by decide +kernel, by decide +kernel⟩
def S__law_line (d : Nat) : Sx :=
  S.seq (S.new 2 (lfits P.nil))
  (S.seq (S.asg 3 (P.var d 1))
  (S.seq (S.forX (S.tName 4) (P.rng1 (P.cons (P.c (.int 12)) P.nil))
  (S.seq (S.ite (P.tb (P.bin T.eq (P.var d 3) (P.c (.int 0))))
  S.brk
  S.skip)
  (S.seq (S.app 2 (P.var d 3))
  (S.asg 3 (P.bin T.ix (P.var d 0) (P.var d 3))))))
  (S.frz 2 (S.ret (P.var d 2)))))
def f__law_line (d : Nat) (ts : List T) : Res T := run 5 (S__law_line d) ts
theorem ok__law_line {fa : Addr} {fd : FuncData} (F : FnP K "_law_line" s__law_line fa fd) (hm : mg "_law_line" = some (.ref fa)) (p0 : cl.pin = none) (g_range : mg "range" = none) : Dok cl Pr w K mg base "_law_line" 1 2 f__law_line := by
  have hN : (["parents", "node", "found", "at", "turn"] : List Str).Nodup := sc__law_line.nd
  refine dok_of (N := ["parents", "node", "found", "at", "turn"]) (ps := ["parents", "node"]) F sc__law_line rfl (by decide) p0 hm (fun _ _ => rfl) (fun _ _ _ _ _ _ us hl => match us, hl with | [_, _], _ => rfl) (fun d cdv A outer s H E hr => ?_)
  exact (db_cons (ds_new (i := 2) hN (dn_lst da_nil))
  (db_cons (ds_asg (i := 3) hN (de_v 1))
  (db_cons (ds_forX po_of (dif_rng1 (da_cons de_int da_nil) g_range) (dg_name (i := 4) hN)
  (db_cons (ds_if (dt_cmp (opD_eq hr.units) (de_v 3) de_int)
  (db_one ds_brk)
  db_nil)
  (db_cons (ds_app (i := 2) (de_v 3))
  (db_one (ds_asg (i := 3) hN (de_ix (de_v 0) (de_v 3)))))))
  (db_one (ds_frz 2 (ds_ret (de_v 2)))))))
/-! ### nodes_above -/
abbrev s_nodes_above : Stmt := top 25
theorem sc_nodes_above : FnScope ["tree", "node", "found", "at"] ["tree", "node"] (defScope s_nodes_above) := ⟨rfl, rfl, rfl, by decide +kernel, rfl, by decide +kernel, by decide +kernel⟩
def S_nodes_above (d : Nat) : Sx :=
  S.seq (S.new 2 (lfits P.nil))
  (S.seq (S.asg 3 (P.var d 1))
  (S.seq (S.while_ (P.tb (P.bin T.ne (P.var d 3) (P.c (.int 0))))
  (S.seq (S.app 2 (P.var d 3))
  (S.asg 3 (P.bin T.ix (P.un (T.fld [5] "parents") (P.var d 0)) (P.var d 3)))) fuel)
  (S.frz 2 (S.ret (P.var d 2)))))
def f_nodes_above (d : Nat) (ts : List T) : Res T := run 4 (S_nodes_above d) ts
theorem ok_nodes_above {fa : Addr} {fd : FuncData} (F : FnP K "nodes_above" s_nodes_above fa fd) (hm : mg "nodes_above" = some (.ref fa)) (p0 : cl.pin = none) (fo_parents : FldOk K cl "parents" [5]) : Dok cl Pr w K mg base "nodes_above" 1 2 f_nodes_above := by
  have hN : (["tree", "node", "found", "at"] : List Str).Nodup := sc_nodes_above.nd
  refine dok_of (N := ["tree", "node", "found", "at"]) (ps := ["tree", "node"]) F sc_nodes_above rfl (by decide) p0 hm (fun _ _ => rfl) (fun _ _ _ _ _ _ us hl => match us, hl with | [_, _], _ => rfl) (fun d cdv A outer s H E hr => ?_)
  exact (db_cons (ds_new (i := 2) hN (dn_lst da_nil))
  (db_cons (ds_asg (i := 3) hN (de_v 1))
  (db_cons (ds_while fuel po_of (dt_cmp (opD_ne hr.units) (de_v 3) de_int)
  (db_cons (ds_app (i := 2) (de_v 3))
  (db_one (ds_asg (i := 3) hN (de_ix (de_attr fo_parents (de_v 0)) (de_v 3))))))
  (db_one (ds_frz 2 (ds_ret (de_v 2)))))))
/-! ### ties_between -/
abbrev s_ties_between : Stmt := top 26
theorem sc_ties_between : FnScope ["tree", "one", "two", "left", "right", "apart", "node"] ["tree", "one", "two"] (defScope s_ties_between) := ⟨rfl, rfl, rfl, by decide +kernel, rfl, by decide +kernel, by decide +kernel⟩
def S_ties_between (d : Nat) : Sx :=
  S.seq (S.asg 3 (P.call (f_nodes_above (d + 1)) (P.cons (P.var d 0) (P.cons (P.var d 1) P.nil))))
  (S.seq (S.asg 4 (P.call (f_nodes_above (d + 1)) (P.cons (P.var d 0) (P.cons (P.var d 2) P.nil))))
  (S.seq (S.asg 5 (P.bin T.add (P.lc [6] (S.tName 6) (P.items (P.var d 3)) (P.tb (P.bin (T.isIn true) (P.var d 6) (P.var d 4))) (P.var d 6)) (P.lc [6] (S.tName 6) (P.items (P.var d 4)) (P.tb (P.bin (T.isIn true) (P.var d 6) (P.var d 3))) (P.var d 6))))
  (S.ret (P.call (fun ts => .of (B.tuple ts)) (P.cons (P.call (fun ts => .of (B.sorted ts)) (P.cons (P.var d 5) P.nil)) P.nil)))))
def f_ties_between (d : Nat) (ts : List T) : Res T := run 7 (S_ties_between d) ts
theorem ok_ties_between {fa : Addr} {fd : FuncData} (F : FnP K "ties_between" s_ties_between fa fd) (hm : mg "ties_between" = some (.ref fa)) (D_nodes_above : Dok cl Pr w K mg base "nodes_above" 1 2 f_nodes_above) (p0 : cl.pin = none) (g_sorted : mg "sorted" = none) (g_tuple : mg "tuple" = none) : Dok cl Pr w K mg base "ties_between" 2 3 f_ties_between := by
  have hN : (["tree", "one", "two", "left", "right", "apart", "node"] : List Str).Nodup := sc_ties_between.nd
  refine dok_of (N := ["tree", "one", "two", "left", "right", "apart", "node"]) (ps := ["tree", "one", "two"]) F sc_ties_between rfl (by decide) p0 hm (fun _ _ => rfl) (fun _ _ _ _ _ _ us hl => match us, hl with | [_, _, _], _ => rfl) (fun d cdv A outer s H E hr => ?_)
  exact (db_cons (ds_asg (i := 3) hN (de_d D_nodes_above (hr.mono (by decide)) (da_cons (de_v 0) (da_cons (de_v 1) da_nil)) (n_cons (n_cons n_nil))))
  (db_cons (ds_asg (i := 4) hN (de_d D_nodes_above (hr.mono (by decide)) (da_cons (de_v 0) (da_cons (de_v 2) da_nil)) (n_cons (n_cons n_nil))))
  (db_cons (ds_asg (i := 5) hN (de_op opD_add (DN.de (dn_lc hN (di_seq (de_v 3)) (blkOk_by (own := [("node", 6)]) (by rfl)) (fun _ _ _ _ _ => dc_name (i := 6) (by decide) hN) (fun _ _ _ _ _ => dts_one (dt_cmp opD_notIn (de_v 6) (de_v 4))) (fun _ _ _ _ _ => de_v 6))) (DN.de (dn_lc hN (di_seq (de_v 4)) (blkOk_by (own := [("node", 6)]) (by rfl)) (fun _ _ _ _ _ => dc_name (i := 6) (by decide) hN) (fun _ _ _ _ _ => dts_one (dt_cmp opD_notIn (de_v 6) (de_v 3))) (fun _ _ _ _ _ => de_v 6)))))
  (db_one (ds_ret (de_ty crd_tuple g_tuple (by decide +kernel) (da_cons (de_b crd_sorted g_sorted (by decide +kernel) (da_cons (de_v 5) da_nil)) da_nil)))))))
/-! ### _law_are_ties -/
abbrev s__law_are_ties : Stmt := top 45
theorem sc__law_are_ties : FnScope ["tree", "parents", "many", "one", "two", "left", "right", "due", "told", "node"] ["tree", "parents", "many"] (defScope s__law_are_ties) := ⟨rfl, rfl, rfl, by decide +kernel, rfl, by decide +kernel, by decide +kernel⟩
def S__law_are_ties (d : Nat) : Sx :=
  S.seq (S.forX (S.tName 3) (P.rng1 (P.cons (P.var d 2) P.nil))
  (S.forX (S.tName 4) (P.rng1 (P.cons (P.var d 2) P.nil))
  (S.seq (S.asg 5 (P.call (f__law_line (d + 1)) (P.cons (P.var d 1) (P.cons (P.var d 3) P.nil))))
  (S.seq (S.asg 6 (P.call (f__law_line (d + 1)) (P.cons (P.var d 1) (P.cons (P.var d 4) P.nil))))
  (S.seq (S.asg 7 (P.lc [9] (S.tName 9) (P.rng1 (P.cons (P.var d 2) P.nil)) (P.tb (P.bin T.ne (P.bin (T.isIn false) (P.var d 9) (P.var d 5)) (P.bin (T.isIn false) (P.var d 9) (P.var d 6)))) (P.var d 9)))
  (S.seq (S.asg 8 (P.call (f_ties_between (d + 1)) (P.cons (P.var d 0) (P.cons (P.var d 3) (P.cons (P.var d 4) P.nil)))))
  (S.ite (P.or (P.not (P.tb (P.un (T.isi "tuple") (P.var d 8)))) (P.tb (P.bin T.ne (P.call (fun ts => .of (B.list ts)) (P.cons (P.var d 8) P.nil)) (P.var d 7))))
  (S.ret (P.c (.bl false)))
  S.skip)))))))
  (S.ret (P.c (.bl true)))
def f__law_are_ties (d : Nat) (ts : List T) : Res T := run 10 (S__law_are_ties d) ts
theorem ok__law_are_ties {fa : Addr} {fd : FuncData} (F : FnP K "_law_are_ties" s__law_are_ties fa fd) (hm : mg "_law_are_ties" = some (.ref fa)) (D__law_line : Dok cl Pr w K mg base "_law_line" 1 2 f__law_line) (D_ties_between : Dok cl Pr w K mg base "ties_between" 2 3 f_ties_between) (p0 : cl.pin = none) (g_isinstance : mg "isinstance" = none) (g_list : mg "list" = none) (g_range : mg "range" = none) (g_tuple : mg "tuple" = none) : Dok cl Pr w K mg base "_law_are_ties" 3 3 f__law_are_ties := by
  have hN : (["tree", "parents", "many", "one", "two", "left", "right", "due", "told", "node"] : List Str).Nodup := sc__law_are_ties.nd
  refine dok_of (N := ["tree", "parents", "many", "one", "two", "left", "right", "due", "told", "node"]) (ps := ["tree", "parents", "many"]) F sc__law_are_ties rfl (by decide) p0 hm (fun _ _ => rfl) (fun _ _ _ _ _ _ us hl => match us, hl with | [_, _, _], _ => rfl) (fun d cdv A outer s H E hr => ?_)
  exact (db_cons (ds_forX po_of (dif_rng1 (da_cons (de_v 2) da_nil) g_range) (dg_name (i := 3) hN)
  (db_one (ds_forX po_of (dif_rng1 (da_cons (de_v 2) da_nil) g_range) (dg_name (i := 4) hN)
  (db_cons (ds_asg (i := 5) hN (de_d D__law_line (hr.mono (by decide)) (da_cons (de_v 1) (da_cons (de_v 3) da_nil)) (n_cons (n_cons n_nil))))
  (db_cons (ds_asg (i := 6) hN (de_d D__law_line (hr.mono (by decide)) (da_cons (de_v 1) (da_cons (de_v 4) da_nil)) (n_cons (n_cons n_nil))))
  (db_cons (ds_asgLc (i := 7) hN (DIF.di (dif_rng1 (da_cons (de_v 2) da_nil) g_range)) (blkOk_by (own := [("node", 9)]) (by rfl)) (fun _ _ _ _ _ => dc_name (i := 9) (by decide) hN) (fun _ _ _ _ _ => dts_one (dt_cmp (opD_ne hr.units) (de_cmp opD_in (de_v 9) (de_v 5)) (de_cmp opD_in (de_v 9) (de_v 6)))) (fun _ _ _ _ _ => de_v 9) (sw_true rfl rfl rfl (by decide +kernel)))
  (db_cons (ds_asg (i := 8) hN (de_d D_ties_between (hr.mono (by decide)) (da_cons (de_v 0) (da_cons (de_v 3) (da_cons (de_v 4) da_nil))) (n_cons (n_cons (n_cons n_nil)))))
  (db_one (ds_if (dt_w (dw_or (dt_not (dt_val (de_isi g_isinstance g_tuple (by decide +kernel) (de_v 8)))) (dw_or1 (dt_cmp (opD_ne hr.units) (de_ty crd_list g_list (by decide +kernel) (da_cons (de_v 8) da_nil)) (de_v 7)))))
  (db_one (ds_ret de_bl))
  db_nil)))))))))
  (db_one (ds_ret de_bl)))
/-! ### law -/
def tabk_Tree : List (TyK × Bool) := [(.inl "NoneType", false), (.inl "bool", false), (.inl "int", false), (.inl "str", false), (.inl "list", false), (.inl "tuple", false), (.inr 5, true), (.inr 6, false)]
abbrev s_law : Stmt := top 46
theorem sc_law : FnScope ["script", "kind", "g", "lots", "sides", "book", "first", "tree", "parents", "nodes", "node", "k", "below", "empty", "lot", "gate"] ["script"] (defScope s_law) := ⟨rfl, rfl, rfl, by decide +kernel, rfl, by decide +kernel, by decide +kernel⟩
def S_law (d : Nat) : Sx :=
  S.seq (S.asg 1 (P.call (f__law_digits (d + 1)) (P.cons (P.call (f__law_cell (d + 1)) (P.cons (P.var d 0) (P.cons (P.c (.int 0)) P.nil))) (P.cons (P.lst (P.cons (P.c (.int 5)) (P.cons (P.c (.int 7)) (P.cons (P.c (.int 3)) P.nil)))) P.nil))))
  (S.seq (S.asg 2 (P.bin T.ix (P.lst (P.cons (P.c (.int 4)) (P.cons (P.c (.int 5)) (P.cons (P.c (.int 6)) (P.cons (P.c (.int 5)) (P.cons (P.c (.int 6)) (P.cons (P.c (.int 3)) (P.cons (P.c (.int 2)) P.nil)))))))) (P.bin T.ix (P.var d 1) (P.c (.int 1)))))
  (S.seq (S.asg 3 (P.call (f__law_lots (d + 1)) (P.cons (P.call (f__law_cell (d + 1)) (P.cons (P.var d 0) (P.cons (P.c (.int 1)) P.nil))) (P.cons (P.var d 2) (P.cons (P.c (.int 9)) (P.cons (P.bin T.ix (P.lst (P.cons (P.c (.str "nested")) (P.cons (P.c (.str "any")) P.nil))) (P.call (fun ts => .of (B.int ts)) (P.cons (P.bin T.eq (P.bin T.ix (P.var d 1) (P.c (.int 0))) (P.c (.int 4))) P.nil))) P.nil))))))
  (S.seq (S.ite (P.and (P.tb (P.bin T.eq (P.bin T.ix (P.var d 1) (P.c (.int 2))) (P.c (.int 1)))) (P.tb (P.bin T.eq (P.bin T.ix (P.var d 1) (P.c (.int 0))) (P.c (.int 2)))))
  (S.asg 3 (P.cutA (P.var d 3) none (some (P.c (.int 1)))))
  S.skip)
  (S.seq (S.asg 4 (P.call (fun ts => .of (B.sorted ts)) (P.cons (P.lc [14] (S.tName 14) (P.items (P.var d 3)) P.yes (P.call (f__law_side (d + 1)) (P.cons (P.var d 2) (P.cons (P.var d 14) P.nil)))) P.nil)))
  (S.seq (S.asg 5 (P.make 6 (f_init_Book (d + 1)) (P.cons (P.var d 2) (P.cons (P.var d 3) P.nil))))
  (S.seq (S.asg 6 (P.call (f__law_first_two (d + 1)) (P.cons (P.var d 2) (P.cons (P.var d 4) P.nil))))
  (S.seq (S.ite (P.tb (P.bin T.notA (P.var d 6) (P.c .non)))
  (S.ret (P.bin T.eq (P.call (f__law_refused (d + 1)) (P.cons (P.var d 5) P.nil)) (P.tup (P.cons (P.bin T.ix (P.var d 6) (P.c (.int 0))) (P.cons (P.bin T.ix (P.var d 6) (P.c (.int 1))) P.nil)))))
  S.skip)
  (S.seq (S.asg 7 (P.call (f_tree_of (d + 1)) (P.cons (P.var d 5) P.nil)))
  (S.seq (S.ite (P.or (P.not (P.tb (P.un (T.isk (lookK tabk_Tree)) (P.var d 7)))) (P.or (P.tb (P.bin (T.cmpM 6 (f_meth_Book___ne__ 0)) (P.un (T.fld [5] "book") (P.var d 7)) (P.var d 5))) (P.not (P.tb (P.un (T.isi "tuple") (P.un (T.fld [5] "parents") (P.var d 7)))))))
  (S.ret (P.c (.bl false)))
  S.skip)
  (S.seq (S.asg 8 (P.bin T.add (P.lst (P.cons (P.c .non) P.nil)) (P.lc [14] (S.tName 14) (P.items (P.var d 4)) P.yes (P.call (f__law_above (d + 1)) (P.cons (P.var d 4) (P.cons (P.var d 14) (P.cons (P.c (.bl false)) P.nil)))))))
  (S.seq (S.asg 9 (P.lc [15] (S.tName 15) (P.rng1 (P.cons (P.var d 2) P.nil)) P.yes (P.call (f__law_above (d + 1)) (P.cons (P.var d 4) (P.cons (P.bin T.shl (P.c (.int 1)) (P.var d 15)) (P.cons (P.c (.bl true)) P.nil))))))
  (S.seq (S.ite (P.or (P.tb (P.bin T.ne (P.call (fun ts => .of (B.list ts)) (P.cons (P.un (T.fld [5] "parents") (P.var d 7)) P.nil)) (P.var d 8))) (P.or (P.tb (P.bin T.ne (P.un (T.fld [5] "gate_nodes") (P.var d 7)) (P.call (fun ts => .of (B.tuple ts)) (P.cons (P.var d 9) P.nil)))) (P.or (P.tb (P.bin T.notA (P.bin T.ix (P.un (T.fld [5] "parents") (P.var d 7)) (P.c (.int 0))) (P.c .non))) (P.tb (P.bin T.ne (P.bin T.ix (P.var d 9) (P.c (.int 0))) (P.c (.int 0)))))))
  (S.ret (P.c (.bl false)))
  S.skip)
  (S.seq (S.for_ (S.tName 10) (P.items (P.bin T.add (P.call (fun ts => .of (B.list ts)) (P.cons (P.un (T.fld [5] "gate_nodes") (P.var d 7)) P.nil)) (P.call (fun ts => .of (B.list ts)) (P.cons (P.cutA (P.un (T.fld [5] "parents") (P.var d 7)) (some (P.c (.int 1))) none) P.nil))))
  (S.ite (P.not (P.tb (P.call (f__law_whole (d + 1)) (P.cons (P.var d 10) P.nil))))
  (S.ret (P.c (.bl false)))
  S.skip))
  (S.seq (S.forX (S.tName 11) (P.rng1 (P.cons (P.call (fun ts => .of (B.len ts)) (P.cons (P.var d 4) P.nil)) P.nil))
  (S.seq (S.asg 12 (P.lc [15] (S.tName 15) (P.rng1 (P.cons (P.var d 2) P.nil)) (P.tb (P.bin (T.isIn false) (P.bin T.add (P.var d 11) (P.c (.int 1))) (P.call (f__law_line (d + 1)) (P.cons (P.var d 8) (P.cons (P.bin T.ix (P.var d 9) (P.var d 15)) P.nil))))) (P.var d 15)))
  (S.ite (P.tb (P.bin T.ne (P.call (fun ts => .of (B.sum ts)) (P.cons (P.lc [15] (S.tName 15) (P.items (P.var d 12)) P.yes (P.bin T.shl (P.c (.int 1)) (P.var d 15))) P.nil)) (P.bin T.ix (P.var d 4) (P.var d 11))))
  (S.ret (P.c (.bl false)))
  S.skip)))
  (S.seq (S.ite (P.not (P.tb (P.call (f__law_are_ties (d + 1)) (P.cons (P.var d 7) (P.cons (P.var d 8) (P.cons (P.call (fun ts => .of (B.len ts)) (P.cons (P.var d 8) P.nil)) P.nil))))))
  (S.ret (P.c (.bl false)))
  S.skip)
  (S.seq (S.asg 13 (P.call (f_tree_of (d + 1)) (P.cons (P.make 6 (f_init_Book (d + 1)) (P.cons (P.var d 2) (P.cons (P.lst P.nil) P.nil))) P.nil)))
  (S.ret (P.andV (P.bin T.eq (P.un (T.fld [5] "parents") (P.var d 13)) (P.tup (P.cons (P.c .non) P.nil))) (P.andV (P.bin T.eq (P.un (T.fld [5] "gate_nodes") (P.var d 13)) (P.bin T.mulA (P.tup (P.cons (P.c (.int 0)) P.nil)) (P.var d 2))) (P.bin T.eq (P.call (f_ties_between (d + 1)) (P.cons (P.var d 13) (P.cons (P.c (.int 0)) (P.cons (P.c (.int 0)) P.nil)))) (P.tup P.nil)))))))))))))))))))))
def f_law (d : Nat) (ts : List T) : Res T := run 16 (S_law d) ts
theorem ok_law {fa : Addr} {fd : FuncData} (F : FnP K "law" s_law fa fd) (hm : mg "law" = some (.ref fa)) (D__law_above : Dok cl Pr w K mg base "_law_above" 4 3 f__law_above) (D__law_are_ties : Dok cl Pr w K mg base "_law_are_ties" 3 3 f__law_are_ties) (D__law_cell : Dok cl Pr w K mg base "_law_cell" 1 2 f__law_cell) (D__law_digits : Dok cl Pr w K mg base "_law_digits" 1 2 f__law_digits) (D__law_first_two : Dok cl Pr w K mg base "_law_first_two" 3 2 f__law_first_two) (D__law_line : Dok cl Pr w K mg base "_law_line" 1 2 f__law_line) (D__law_lots : Dok cl Pr w K mg base "_law_lots" 4 4 f__law_lots) (D__law_refused : Dok cl Pr w K mg base "_law_refused" 5 1 f__law_refused) (D__law_side : Dok cl Pr w K mg base "_law_side" 2 2 f__law_side) (D__law_whole : Dok cl Pr w K mg base "_law_whole" 1 1 f__law_whole) (D_ties_between : Dok cl Pr w K mg base "ties_between" 2 3 f_ties_between) (D_tree_of : Dok cl Pr w K mg base "tree_of" 4 1 f_tree_of) (I_Book : Iok cl Pr w K mg base "Book" 6 4 2 f_init_Book) (M_Book___ne__ : Mok cl Pr w K mg base "__ne__" 6 2 2 f_meth_Book___ne__) (p0 : cl.pin = none) (g_int : mg "int" = none) (g_isinstance : mg "isinstance" = none) (g_len : mg "len" = none) (g_list : mg "list" = none) (g_range : mg "range" = none) (g_sorted : mg "sorted" = none) (g_sum : mg "sum" = none) (g_tuple : mg "tuple" = none) (ik_Tree : InsAll K cl (lookK tabk_Tree)) (tk_Tree : ∀ n b, lookK tabk_Tree n = some b → PySem.W.kitOne K (tyVal cl n) (.ref (cl.f 5)) = some b) (fo_book : FldOk K cl "book" [5]) (fo_gate_nodes : FldOk K cl "gate_nodes" [5]) (fo_parents : FldOk K cl "parents" [5]) (m_Tree : mg "Tree" = some (.ref (cl.f 5))) : Dok cl Pr w K mg base "law" 6 1 f_law := by
  have hN : (["script", "kind", "g", "lots", "sides", "book", "first", "tree", "parents", "nodes", "node", "k", "below", "empty", "lot", "gate"] : List Str).Nodup := sc_law.nd
  refine dok_of (N := ["script", "kind", "g", "lots", "sides", "book", "first", "tree", "parents", "nodes", "node", "k", "below", "empty", "lot", "gate"]) (ps := ["script"]) F sc_law rfl (by decide) p0 hm (fun _ _ => rfl) (fun _ _ _ _ _ _ us hl => match us, hl with | [_], _ => rfl) (fun d cdv A outer s H E hr => ?_)
  exact (db_cons (ds_asg (i := 1) hN (de_d D__law_digits (hr.mono (by decide)) (da_cons (de_d D__law_cell (hr.mono (by decide)) (da_cons (de_v 0) (da_cons de_int da_nil)) (n_cons (n_cons n_nil))) (da_cons (de_lst (da_cons de_int (da_cons de_int (da_cons de_int da_nil)))) da_nil)) (n_cons (n_cons n_nil))))
  (db_cons (ds_asg (i := 2) hN (de_ix (de_lst (da_cons de_int (da_cons de_int (da_cons de_int (da_cons de_int (da_cons de_int (da_cons de_int (da_cons de_int da_nil)))))))) (de_ix (de_v 1) de_int)))
  (db_cons (ds_asg (i := 3) hN (de_d D__law_lots (hr.mono (by decide)) (da_cons (de_d D__law_cell (hr.mono (by decide)) (da_cons (de_v 0) (da_cons de_int da_nil)) (n_cons (n_cons n_nil))) (da_cons (de_v 2) (da_cons de_int (da_cons (de_ix (de_lst (da_cons de_str (da_cons de_str da_nil))) (de_ty crd_int g_int (by decide +kernel) (da_cons (de_cmp (opD_eq hr.units) (de_ix (de_v 1) de_int) de_int) da_nil))) da_nil)))) (n_cons (n_cons (n_cons (n_cons n_nil))))))
  (db_cons (ds_if (dt_w (dw_and (dt_cmp (opD_eq hr.units) (de_ix (de_v 1) de_int) de_int) (dw_and1 (dt_cmp (opD_eq hr.units) (de_ix (de_v 1) de_int) de_int))))
  (db_one (ds_asg (i := 3) hN (de_cutA (de_v 3) do_none (do_some de_int))))
  db_nil)
  (db_cons (ds_asg (i := 4) hN (de_b crd_sorted g_sorted (by decide +kernel) (da_cons (DN.de (dn_lc hN (di_seq (de_v 3)) (blkOk_by (own := [("lot", 14)]) (by rfl)) (fun _ _ _ _ _ => dc_name (i := 14) (by decide) hN) (fun _ _ _ _ _ => dts_nil) (fun _ _ _ _ _ => de_d D__law_side (hr.mono (by decide)) (da_cons (de_v 2) (da_cons (de_v 14) da_nil)) (n_cons (n_cons n_nil))))) da_nil)))
  (db_cons (ds_asg (i := 5) hN (de_make I_Book (hr.mono (by decide)) (da_cons (de_v 2) (da_cons (de_v 3) da_nil)) (n_cons (n_cons n_nil))))
  (db_cons (ds_asg (i := 6) hN (de_d D__law_first_two (hr.mono (by decide)) (da_cons (de_v 2) (da_cons (de_v 4) da_nil)) (n_cons (n_cons n_nil))))
  (db_cons (ds_if (dt_cmp opD_notA (de_v 6) de_non)
  (db_one (ds_ret (de_cmp (opD_eq hr.units) (de_d D__law_refused (hr.mono (by decide)) (da_cons (de_v 5) da_nil) (n_cons n_nil)) (de_tup (da_cons (de_ix (de_v 6) de_int) (da_cons (de_ix (de_v 6) de_int) da_nil))))))
  db_nil)
  (db_cons (ds_asg (i := 7) hN (de_d D_tree_of (hr.mono (by decide)) (da_cons (de_v 5) da_nil) (n_cons n_nil)))
  (db_cons (ds_if (dt_w (dw_or (dt_not (dt_val (de_isk g_isinstance (NC.own m_Tree) ik_Tree tk_Tree (de_v 7)))) (dw_or (dt_cmp (opD_cmpM M_Book___ne__ (hr.mono (by decide))) (de_attr fo_book (de_v 7)) (de_v 5)) (dw_or1 (dt_not (dt_val (de_isi g_isinstance g_tuple (by decide +kernel) (de_attr fo_parents (de_v 7)))))))))
  (db_one (ds_ret de_bl))
  db_nil)
  (db_cons (ds_asg (i := 8) hN (de_op opD_add (de_lst (da_cons de_non da_nil)) (DN.de (dn_lc hN (di_seq (de_v 4)) (blkOk_by (own := [("lot", 14)]) (by rfl)) (fun _ _ _ _ _ => dc_name (i := 14) (by decide) hN) (fun _ _ _ _ _ => dts_nil) (fun _ _ _ _ _ => de_d D__law_above (hr.mono (by decide)) (da_cons (de_v 4) (da_cons (de_v 14) (da_cons de_bl da_nil))) (n_cons (n_cons (n_cons n_nil))))))))
  (db_cons (ds_asg (i := 9) hN (DN.de (dn_lc hN (DIF.di (dif_rng1 (da_cons (de_v 2) da_nil) g_range)) (blkOk_by (own := [("gate", 15)]) (by rfl)) (fun _ _ _ _ _ => dc_name (i := 15) (by decide) hN) (fun _ _ _ _ _ => dts_nil) (fun _ _ _ _ _ => de_d D__law_above (hr.mono (by decide)) (da_cons (de_v 4) (da_cons (de_op opD_shl de_int (de_v 15)) (da_cons de_bl da_nil))) (n_cons (n_cons (n_cons n_nil)))))))
  (db_cons (ds_if (dt_w (dw_or (dt_cmp (opD_ne hr.units) (de_ty crd_list g_list (by decide +kernel) (da_cons (de_attr fo_parents (de_v 7)) da_nil)) (de_v 8)) (dw_or (dt_cmp (opD_ne hr.units) (de_attr fo_gate_nodes (de_v 7)) (de_ty crd_tuple g_tuple (by decide +kernel) (da_cons (de_v 9) da_nil))) (dw_or (dt_cmp opD_notA (de_ix (de_attr fo_parents (de_v 7)) de_int) de_non) (dw_or1 (dt_cmp (opD_ne hr.units) (de_ix (de_v 9) de_int) de_int))))))
  (db_one (ds_ret de_bl))
  db_nil)
  (db_cons (ds_for po_of (di_seq (de_op opD_add (de_ty crd_list g_list (by decide +kernel) (da_cons (de_attr fo_gate_nodes (de_v 7)) da_nil)) (de_ty crd_list g_list (by decide +kernel) (da_cons (de_cutA (de_attr fo_parents (de_v 7)) (do_some de_int) do_none) da_nil)))) (dg_name (i := 10) hN)
  (db_one (ds_if (dt_not (dt_val (de_d D__law_whole (hr.mono (by decide)) (da_cons (de_v 10) da_nil) (n_cons n_nil))))
  (db_one (ds_ret de_bl))
  db_nil)))
  (db_cons (ds_forX po_of (dif_rng1 (da_cons (de_b crd_len g_len (by decide +kernel) (da_cons (de_v 4) da_nil)) da_nil) g_range) (dg_name (i := 11) hN)
  (db_cons (ds_asgLc (i := 12) hN (DIF.di (dif_rng1 (da_cons (de_v 2) da_nil) g_range)) (blkOk_by (own := [("gate", 15)]) (by rfl)) (fun _ _ _ _ _ => dc_name (i := 15) (by decide) hN) (fun _ _ _ _ _ => dts_one (dt_cmp opD_in (de_op opD_add (de_v 11) de_int) (de_d D__law_line (hr.mono (by decide)) (da_cons (de_v 8) (da_cons (de_ix (de_v 9) (de_v 15)) da_nil)) (n_cons (n_cons n_nil))))) (fun _ _ _ _ _ => de_v 15) (sw_true rfl rfl rfl (by decide +kernel)))
  (db_one (ds_if (dt_cmp (opD_ne hr.units) (de_b (crd_sum rfl) g_sum (by decide +kernel) (da_cons (DN.de (dn_lc hN (di_seq (de_v 12)) (blkOk_by (own := [("gate", 15)]) (by rfl)) (fun _ _ _ _ _ => dc_name (i := 15) (by decide) hN) (fun _ _ _ _ _ => dts_nil) (fun _ _ _ _ _ => de_op opD_shl de_int (de_v 15)))) da_nil)) (de_ix (de_v 4) (de_v 11)))
  (db_one (ds_ret de_bl))
  db_nil))))
  (db_cons (ds_if (dt_not (dt_val (de_d D__law_are_ties (hr.mono (by decide)) (da_cons (de_v 7) (da_cons (de_v 8) (da_cons (de_b crd_len g_len (by decide +kernel) (da_cons (de_v 8) da_nil)) da_nil))) (n_cons (n_cons (n_cons n_nil))))))
  (db_one (ds_ret de_bl))
  db_nil)
  (db_cons (ds_asg (i := 13) hN (de_d D_tree_of (hr.mono (by decide)) (da_cons (de_make I_Book (hr.mono (by decide)) (da_cons (de_v 2) (da_cons (de_lst da_nil) da_nil)) (n_cons (n_cons n_nil))) da_nil) (n_cons n_nil)))
  (db_one (ds_ret (de_and (de_cmp (opD_eq hr.units) (de_attr fo_parents (de_v 13)) (de_tup (da_cons de_non da_nil))) (de_and (de_cmp (opD_eq hr.units) (de_attr fo_gate_nodes (de_v 13)) (de_op opD_mulA (de_tup (da_cons de_int da_nil)) (de_v 2))) (de_one (de_cmp (opD_eq hr.units) (de_d D_ties_between (hr.mono (by decide)) (da_cons (de_v 13) (da_cons de_int (da_cons de_int da_nil))) (n_cons (n_cons (n_cons n_nil)))) (de_tup da_nil))))))))))))))))))))))))
theorem okF_law {fa : Addr} {fd : FuncData} (F : FnP K "law" s_law fa fd) (D__law_above : Dok cl Pr w K mg base "_law_above" 4 3 f__law_above) (D__law_are_ties : Dok cl Pr w K mg base "_law_are_ties" 3 3 f__law_are_ties) (D__law_cell : Dok cl Pr w K mg base "_law_cell" 1 2 f__law_cell) (D__law_digits : Dok cl Pr w K mg base "_law_digits" 1 2 f__law_digits) (D__law_first_two : Dok cl Pr w K mg base "_law_first_two" 3 2 f__law_first_two) (D__law_line : Dok cl Pr w K mg base "_law_line" 1 2 f__law_line) (D__law_lots : Dok cl Pr w K mg base "_law_lots" 4 4 f__law_lots) (D__law_refused : Dok cl Pr w K mg base "_law_refused" 5 1 f__law_refused) (D__law_side : Dok cl Pr w K mg base "_law_side" 2 2 f__law_side) (D__law_whole : Dok cl Pr w K mg base "_law_whole" 1 1 f__law_whole) (D_ties_between : Dok cl Pr w K mg base "ties_between" 2 3 f_ties_between) (D_tree_of : Dok cl Pr w K mg base "tree_of" 4 1 f_tree_of) (I_Book : Iok cl Pr w K mg base "Book" 6 4 2 f_init_Book) (M_Book___ne__ : Mok cl Pr w K mg base "__ne__" 6 2 2 f_meth_Book___ne__) (p0 : cl.pin = none) (g_int : mg "int" = none) (g_isinstance : mg "isinstance" = none) (g_len : mg "len" = none) (g_list : mg "list" = none) (g_range : mg "range" = none) (g_sorted : mg "sorted" = none) (g_sum : mg "sum" = none) (g_tuple : mg "tuple" = none) (ik_Tree : InsAll K cl (lookK tabk_Tree)) (tk_Tree : ∀ n b, lookK tabk_Tree n = some b → PySem.W.kitOne K (tyVal cl n) (.ref (cl.f 5)) = some b) (fo_book : FldOk K cl "book" [5]) (fo_gate_nodes : FldOk K cl "gate_nodes" [5]) (fo_parents : FldOk K cl "parents" [5]) (m_Tree : mg "Tree" = some (.ref (cl.f 5))) : FnOk Pr w K mg base (L2.CX Pr w) 6 fa fd ["script"] (spT ⟨K, cl⟩ 1 f_law) := by
  have hN : (["script", "kind", "g", "lots", "sides", "book", "first", "tree", "parents", "nodes", "node", "k", "below", "empty", "lot", "gate"] : List Str).Nodup := sc_law.nd
  refine def_ok (N := ["script", "kind", "g", "lots", "sides", "book", "first", "tree", "parents", "nodes", "node", "k", "below", "empty", "lot", "gate"]) (ps := ["script"]) F sc_law rfl (by decide) p0 (fun _ _ => rfl) (fun d cdv A outer s H E hr => ?_)
  exact (db_cons (ds_asg (i := 1) hN (de_d D__law_digits (hr.mono (by decide)) (da_cons (de_d D__law_cell (hr.mono (by decide)) (da_cons (de_v 0) (da_cons de_int da_nil)) (n_cons (n_cons n_nil))) (da_cons (de_lst (da_cons de_int (da_cons de_int (da_cons de_int da_nil)))) da_nil)) (n_cons (n_cons n_nil))))
  (db_cons (ds_asg (i := 2) hN (de_ix (de_lst (da_cons de_int (da_cons de_int (da_cons de_int (da_cons de_int (da_cons de_int (da_cons de_int (da_cons de_int da_nil)))))))) (de_ix (de_v 1) de_int)))
  (db_cons (ds_asg (i := 3) hN (de_d D__law_lots (hr.mono (by decide)) (da_cons (de_d D__law_cell (hr.mono (by decide)) (da_cons (de_v 0) (da_cons de_int da_nil)) (n_cons (n_cons n_nil))) (da_cons (de_v 2) (da_cons de_int (da_cons (de_ix (de_lst (da_cons de_str (da_cons de_str da_nil))) (de_ty crd_int g_int (by decide +kernel) (da_cons (de_cmp (opD_eq hr.units) (de_ix (de_v 1) de_int) de_int) da_nil))) da_nil)))) (n_cons (n_cons (n_cons (n_cons n_nil))))))
  (db_cons (ds_if (dt_w (dw_and (dt_cmp (opD_eq hr.units) (de_ix (de_v 1) de_int) de_int) (dw_and1 (dt_cmp (opD_eq hr.units) (de_ix (de_v 1) de_int) de_int))))
  (db_one (ds_asg (i := 3) hN (de_cutA (de_v 3) do_none (do_some de_int))))
  db_nil)
  (db_cons (ds_asg (i := 4) hN (de_b crd_sorted g_sorted (by decide +kernel) (da_cons (DN.de (dn_lc hN (di_seq (de_v 3)) (blkOk_by (own := [("lot", 14)]) (by rfl)) (fun _ _ _ _ _ => dc_name (i := 14) (by decide) hN) (fun _ _ _ _ _ => dts_nil) (fun _ _ _ _ _ => de_d D__law_side (hr.mono (by decide)) (da_cons (de_v 2) (da_cons (de_v 14) da_nil)) (n_cons (n_cons n_nil))))) da_nil)))
  (db_cons (ds_asg (i := 5) hN (de_make I_Book (hr.mono (by decide)) (da_cons (de_v 2) (da_cons (de_v 3) da_nil)) (n_cons (n_cons n_nil))))
  (db_cons (ds_asg (i := 6) hN (de_d D__law_first_two (hr.mono (by decide)) (da_cons (de_v 2) (da_cons (de_v 4) da_nil)) (n_cons (n_cons n_nil))))
  (db_cons (ds_if (dt_cmp opD_notA (de_v 6) de_non)
  (db_one (ds_ret (de_cmp (opD_eq hr.units) (de_d D__law_refused (hr.mono (by decide)) (da_cons (de_v 5) da_nil) (n_cons n_nil)) (de_tup (da_cons (de_ix (de_v 6) de_int) (da_cons (de_ix (de_v 6) de_int) da_nil))))))
  db_nil)
  (db_cons (ds_asg (i := 7) hN (de_d D_tree_of (hr.mono (by decide)) (da_cons (de_v 5) da_nil) (n_cons n_nil)))
  (db_cons (ds_if (dt_w (dw_or (dt_not (dt_val (de_isk g_isinstance (NC.own m_Tree) ik_Tree tk_Tree (de_v 7)))) (dw_or (dt_cmp (opD_cmpM M_Book___ne__ (hr.mono (by decide))) (de_attr fo_book (de_v 7)) (de_v 5)) (dw_or1 (dt_not (dt_val (de_isi g_isinstance g_tuple (by decide +kernel) (de_attr fo_parents (de_v 7)))))))))
  (db_one (ds_ret de_bl))
  db_nil)
  (db_cons (ds_asg (i := 8) hN (de_op opD_add (de_lst (da_cons de_non da_nil)) (DN.de (dn_lc hN (di_seq (de_v 4)) (blkOk_by (own := [("lot", 14)]) (by rfl)) (fun _ _ _ _ _ => dc_name (i := 14) (by decide) hN) (fun _ _ _ _ _ => dts_nil) (fun _ _ _ _ _ => de_d D__law_above (hr.mono (by decide)) (da_cons (de_v 4) (da_cons (de_v 14) (da_cons de_bl da_nil))) (n_cons (n_cons (n_cons n_nil))))))))
  (db_cons (ds_asg (i := 9) hN (DN.de (dn_lc hN (DIF.di (dif_rng1 (da_cons (de_v 2) da_nil) g_range)) (blkOk_by (own := [("gate", 15)]) (by rfl)) (fun _ _ _ _ _ => dc_name (i := 15) (by decide) hN) (fun _ _ _ _ _ => dts_nil) (fun _ _ _ _ _ => de_d D__law_above (hr.mono (by decide)) (da_cons (de_v 4) (da_cons (de_op opD_shl de_int (de_v 15)) (da_cons de_bl da_nil))) (n_cons (n_cons (n_cons n_nil)))))))
  (db_cons (ds_if (dt_w (dw_or (dt_cmp (opD_ne hr.units) (de_ty crd_list g_list (by decide +kernel) (da_cons (de_attr fo_parents (de_v 7)) da_nil)) (de_v 8)) (dw_or (dt_cmp (opD_ne hr.units) (de_attr fo_gate_nodes (de_v 7)) (de_ty crd_tuple g_tuple (by decide +kernel) (da_cons (de_v 9) da_nil))) (dw_or (dt_cmp opD_notA (de_ix (de_attr fo_parents (de_v 7)) de_int) de_non) (dw_or1 (dt_cmp (opD_ne hr.units) (de_ix (de_v 9) de_int) de_int))))))
  (db_one (ds_ret de_bl))
  db_nil)
  (db_cons (ds_for po_of (di_seq (de_op opD_add (de_ty crd_list g_list (by decide +kernel) (da_cons (de_attr fo_gate_nodes (de_v 7)) da_nil)) (de_ty crd_list g_list (by decide +kernel) (da_cons (de_cutA (de_attr fo_parents (de_v 7)) (do_some de_int) do_none) da_nil)))) (dg_name (i := 10) hN)
  (db_one (ds_if (dt_not (dt_val (de_d D__law_whole (hr.mono (by decide)) (da_cons (de_v 10) da_nil) (n_cons n_nil))))
  (db_one (ds_ret de_bl))
  db_nil)))
  (db_cons (ds_forX po_of (dif_rng1 (da_cons (de_b crd_len g_len (by decide +kernel) (da_cons (de_v 4) da_nil)) da_nil) g_range) (dg_name (i := 11) hN)
  (db_cons (ds_asgLc (i := 12) hN (DIF.di (dif_rng1 (da_cons (de_v 2) da_nil) g_range)) (blkOk_by (own := [("gate", 15)]) (by rfl)) (fun _ _ _ _ _ => dc_name (i := 15) (by decide) hN) (fun _ _ _ _ _ => dts_one (dt_cmp opD_in (de_op opD_add (de_v 11) de_int) (de_d D__law_line (hr.mono (by decide)) (da_cons (de_v 8) (da_cons (de_ix (de_v 9) (de_v 15)) da_nil)) (n_cons (n_cons n_nil))))) (fun _ _ _ _ _ => de_v 15) (sw_true rfl rfl rfl (by decide +kernel)))
  (db_one (ds_if (dt_cmp (opD_ne hr.units) (de_b (crd_sum rfl) g_sum (by decide +kernel) (da_cons (DN.de (dn_lc hN (di_seq (de_v 12)) (blkOk_by (own := [("gate", 15)]) (by rfl)) (fun _ _ _ _ _ => dc_name (i := 15) (by decide) hN) (fun _ _ _ _ _ => dts_nil) (fun _ _ _ _ _ => de_op opD_shl de_int (de_v 15)))) da_nil)) (de_ix (de_v 4) (de_v 11)))
  (db_one (ds_ret de_bl))
  db_nil))))
  (db_cons (ds_if (dt_not (dt_val (de_d D__law_are_ties (hr.mono (by decide)) (da_cons (de_v 7) (da_cons (de_v 8) (da_cons (de_b crd_len g_len (by decide +kernel) (da_cons (de_v 8) da_nil)) da_nil))) (n_cons (n_cons (n_cons n_nil))))))
  (db_one (ds_ret de_bl))
  db_nil)
  (db_cons (ds_asg (i := 13) hN (de_d D_tree_of (hr.mono (by decide)) (da_cons (de_make I_Book (hr.mono (by decide)) (da_cons (de_v 2) (da_cons (de_lst da_nil) da_nil)) (n_cons (n_cons n_nil))) da_nil) (n_cons n_nil)))
  (db_one (ds_ret (de_and (de_cmp (opD_eq hr.units) (de_attr fo_parents (de_v 13)) (de_tup (da_cons de_non da_nil))) (de_and (de_cmp (opD_eq hr.units) (de_attr fo_gate_nodes (de_v 13)) (de_op opD_mulA (de_tup (da_cons de_int da_nil)) (de_v 2))) (de_one (de_cmp (opD_eq hr.units) (de_d D_ties_between (hr.mono (by decide)) (da_cons (de_v 13) (da_cons de_int (da_cons de_int da_nil))) (n_cons (n_cons (n_cons n_nil)))) (de_tup da_nil))))))))))))))))))))))))
end
/-! ### the head -/
def clNames : List Str := ["TownError", "BadLot", "ThreeCross", "TwoCross", "CountsDiffer", "Tree", "Book"]
abbrev s_init_BadLot : Stmt := mth (top 2) 0
abbrev s_init_TwoCross : Stmt := mth (top 4) 0
def fa_0 : List He.Fa := [.glo "_law_digits", .glo "_law_cell", .glo "_law_bit", .glo "_law_side", .glo "_law_cross", .glo "_law_first_three", .glo "_law_first_two", .glo "_law_lots", .glo "is_whole", .glo "is_side_lot", .glo "side", .glo "sides_cross", .glo "crossing_pairs", .glo "check_nested", .glo "members", .glo "size", .glo "smallest_with", .glo "has", .glo "smallest_holding", .glo "tree_of", .glo "_law_refused", .glo "_law_members", .glo "_law_count", .glo "_law_above", .glo "_law_whole"]
def fa_1 : List He.Fa := [.glo "_law_line", .glo "nodes_above", .glo "ties_between", .glo "_law_are_ties", .glo "law", .noat "Book" "many", .noat "Book" "sides", .noat "Tree" "book", .noat "Tree" "gate_nodes", .noat "Tree" "parents", .cls "Book", .cls "Tree", .mkr "Book", .mkr "Tree", .meth "Book" "__eq__", .meth "Book" "__ne__", .glo "BadLot", .glo "Book", .glo "ThreeCross", .glo "TownError", .glo "Tree", .glo "TwoCross", .free "bool", .free "int", .free "isinstance"]
def fa_2 : List He.Fa := [.free "len", .free "list", .free "max", .free "range", .free "sorted", .free "sum", .free "tuple", .noat "BadLot" "lot", .noat "TwoCross" "pair"]
def fa : List He.Fa := fa_0 ++ fa_1 ++ fa_2
def fn_0 : List He.DefD := [⟨("_law_digits", none), "_law_digits", "_law_digits", defArgs s__law_digits, defBody s__law_digits, defScope s__law_digits, [], []⟩, ⟨("_law_cell", none), "_law_cell", "_law_cell", defArgs s__law_cell, defBody s__law_cell, defScope s__law_cell, [], []⟩, ⟨("_law_bit", none), "_law_bit", "_law_bit", defArgs s__law_bit, defBody s__law_bit, defScope s__law_bit, [], []⟩, ⟨("_law_side", none), "_law_side", "_law_side", defArgs s__law_side, defBody s__law_side, defScope s__law_side, [], []⟩, ⟨("_law_cross", none), "_law_cross", "_law_cross", defArgs s__law_cross, defBody s__law_cross, defScope s__law_cross, [], []⟩, ⟨("_law_first_three", none), "_law_first_three", "_law_first_three", defArgs s__law_first_three, defBody s__law_first_three, defScope s__law_first_three, [], []⟩, ⟨("_law_first_two", none), "_law_first_two", "_law_first_two", defArgs s__law_first_two, defBody s__law_first_two, defScope s__law_first_two, [], []⟩, ⟨("_law_lots", none), "_law_lots", "_law_lots", defArgs s__law_lots, defBody s__law_lots, defScope s__law_lots, [], []⟩, ⟨("is_whole", none), "is_whole", "is_whole", defArgs s_is_whole, defBody s_is_whole, defScope s_is_whole, [], []⟩, ⟨("is_side_lot", none), "is_side_lot", "is_side_lot", defArgs s_is_side_lot, defBody s_is_side_lot, defScope s_is_side_lot, [], []⟩, ⟨("side", none), "side", "side", defArgs s_side, defBody s_side, defScope s_side, [], []⟩, ⟨("Book", some "__init__"), "__init__", "Book.__init__", defArgs s_init_Book, defBody s_init_Book, defScope s_init_Book, [], []⟩, ⟨("sides_cross", none), "sides_cross", "sides_cross", defArgs s_sides_cross, defBody s_sides_cross, defScope s_sides_cross, [], []⟩, ⟨("crossing_pairs", none), "crossing_pairs", "crossing_pairs", defArgs s_crossing_pairs, defBody s_crossing_pairs, defScope s_crossing_pairs, [], []⟩, ⟨("check_nested", none), "check_nested", "check_nested", defArgs s_check_nested, defBody s_check_nested, defScope s_check_nested, [], []⟩, ⟨("members", none), "members", "members", defArgs s_members, defBody s_members, defScope s_members, [], []⟩, ⟨("size", none), "size", "size", defArgs s_size, defBody s_size, defScope s_size, [], []⟩, ⟨("smallest_with", none), "smallest_with", "smallest_with", defArgs s_smallest_with, defBody s_smallest_with, defScope s_smallest_with, [], []⟩, ⟨("has", none), "has", "has", defArgs s_has, defBody s_has, defScope s_has, [], []⟩, ⟨("smallest_holding", none), "smallest_holding", "smallest_holding", defArgs s_smallest_holding, defBody s_smallest_holding, defScope s_smallest_holding, [], []⟩, ⟨("Tree", some "__init__"), "__init__", "Tree.__init__", defArgs s_init_Tree, defBody s_init_Tree, defScope s_init_Tree, [], []⟩, ⟨("tree_of", none), "tree_of", "tree_of", defArgs s_tree_of, defBody s_tree_of, defScope s_tree_of, [], []⟩, ⟨("_law_refused", none), "_law_refused", "_law_refused", defArgs s__law_refused, defBody s__law_refused, defScope s__law_refused, [], []⟩, ⟨("Book", some "__eq__"), "__eq__", "Book.__eq__", defArgs s_meth_Book___eq__, defBody s_meth_Book___eq__, defScope s_meth_Book___eq__, [], []⟩, ⟨("Book", some "__ne__"), "__ne__", "Book.__ne__", defArgs s_meth_Book___ne__, defBody s_meth_Book___ne__, defScope s_meth_Book___ne__, [], []⟩]
def fn_1 : List He.DefD := [⟨("_law_members", none), "_law_members", "_law_members", defArgs s__law_members, defBody s__law_members, defScope s__law_members, [], []⟩, ⟨("_law_count", none), "_law_count", "_law_count", defArgs s__law_count, defBody s__law_count, defScope s__law_count, [], []⟩, ⟨("_law_above", none), "_law_above", "_law_above", defArgs s__law_above, defBody s__law_above, defScope s__law_above, [], []⟩, ⟨("_law_whole", none), "_law_whole", "_law_whole", defArgs s__law_whole, defBody s__law_whole, defScope s__law_whole, [], []⟩, ⟨("_law_line", none), "_law_line", "_law_line", defArgs s__law_line, defBody s__law_line, defScope s__law_line, [], []⟩, ⟨("nodes_above", none), "nodes_above", "nodes_above", defArgs s_nodes_above, defBody s_nodes_above, defScope s_nodes_above, [], []⟩, ⟨("ties_between", none), "ties_between", "ties_between", defArgs s_ties_between, defBody s_ties_between, defScope s_ties_between, [], []⟩, ⟨("_law_are_ties", none), "_law_are_ties", "_law_are_ties", defArgs s__law_are_ties, defBody s__law_are_ties, defScope s__law_are_ties, [], []⟩, ⟨("law", none), "law", "law", defArgs s_law, defBody s_law, defScope s_law, [], []⟩, ⟨("BadLot", some "__init__"), "__init__", "BadLot.__init__", defArgs s_init_BadLot, defBody s_init_BadLot, defScope s_init_BadLot, [], []⟩, ⟨("TwoCross", some "__init__"), "__init__", "TwoCross.__init__", defArgs s_init_TwoCross, defBody s_init_TwoCross, defScope s_init_TwoCross, [], []⟩]
def fn : List He.DefD := fn_0 ++ fn_1
def xs : List XF := [excB "BadLot", excB "TwoCross", iniB "BadLot", iniB "TwoCross", exmB clNames [(0, false), (1, false), (2, false), (3, true), (4, false)] (fun K => .ref (He.ga K "TwoCross")), kitsB clNames [(0, false), (1, false), (2, true), (3, false), (4, false)] (fun K => .ref (He.ga K "ThreeCross")), kitsB clNames [(0, true), (1, true), (2, true), (3, true), (4, true)] (fun K => .ref (He.ga K "TownError")), iskB clNames tabk_Book (fun K => .ref (He.ga K "Book")), insB "Tree", insB "Book", iskB clNames tabk_Tree (fun K => .ref (He.ga K "Tree"))]
abbrev R : PySem.W.OpenRow := PySem.W.OpenLaw.row PySem.Challenge.rw_fullsides_k81_trees
abbrev hk : PySem.W.Hook := hookX 6 fa fn xs
def ob (s : PySem.W.SharedT) : He.AlD := obsXG 6 fa fn xs (HandSHeadRun.getT s)
theorem ob_eq (s : PySem.W.SharedT) : ob s = hk.obs s.abs := obsXG_eq (HandSHeadRun.getT_eq s)
def loose0 : List Str := ["TownError", "BadLot", "ThreeCross", "TwoCross", "CountsDiffer", "is_whole", "is_side_lot", "side", "sides_cross", "crossing_pairs", "check_nested", "members", "size", "has", "Tree", "smallest_with", "smallest_holding", "tree_of", "nodes_above", "ties_between", "Book", "check_counts", "_law_whole", "_law_cell", "_law_digits", "_law_bit", "_law_members", "_law_side", "_law_cross", "_law_first_three"]
def loose1 : List Str := ["_law_first_two", "_law_lots", "_law_count", "_law_above", "_law_line", "_law_refused", "_law_are_ties"]
def loose : List Str := loose0 ++ loose1
theorem topRun (w : World) : HandSHeadRun.RunEq R (PySem.W.view R.prog [46]) hk ob 4000 loose w := by
  intro os
  kernel_rfl
theorem facts {Pr : Program} {w : World} {K : PySem.W.Frag} {h : Heap} {mg : Str → Option Value} {f : Addr} (X : K.In h) (G : h.Ns mainGlobals mg) (hfa : mg ("law" : Str) = some (.ref f)) (c : SaysX fa fn xs K) :
    ∃ fd : FuncData, (∀ (s : Shared) (v : Value), BindsTo s fd ⟨[v], []⟩ [("script", v)]) ∧ ∀ base : Heap, K.In base → base.Ns mainGlobals mg → FnOk Pr w K mg base (L2.CX Pr w) 6 f fd ["script"] (spT ⟨K, clOf clNames K⟩ 1 f_law) := by
  obtain ⟨fd__law_digits, F__law_digits⟩ := c.def_ 0 rfl
  have m__law_digits := He.glo_ok X G (c.fact 0 (f := .glo "_law_digits") rfl)
  obtain ⟨fd__law_cell, F__law_cell⟩ := c.def_ 1 rfl
  have m__law_cell := He.glo_ok X G (c.fact 1 (f := .glo "_law_cell") rfl)
  obtain ⟨fd__law_bit, F__law_bit⟩ := c.def_ 2 rfl
  have m__law_bit := He.glo_ok X G (c.fact 2 (f := .glo "_law_bit") rfl)
  obtain ⟨fd__law_side, F__law_side⟩ := c.def_ 3 rfl
  have m__law_side := He.glo_ok X G (c.fact 3 (f := .glo "_law_side") rfl)
  obtain ⟨fd__law_cross, F__law_cross⟩ := c.def_ 4 rfl
  have m__law_cross := He.glo_ok X G (c.fact 4 (f := .glo "_law_cross") rfl)
  obtain ⟨fd__law_first_three, F__law_first_three⟩ := c.def_ 5 rfl
  have m__law_first_three := He.glo_ok X G (c.fact 5 (f := .glo "_law_first_three") rfl)
  obtain ⟨fd__law_first_two, F__law_first_two⟩ := c.def_ 6 rfl
  have m__law_first_two := He.glo_ok X G (c.fact 6 (f := .glo "_law_first_two") rfl)
  obtain ⟨fd__law_lots, F__law_lots⟩ := c.def_ 7 rfl
  have m__law_lots := He.glo_ok X G (c.fact 7 (f := .glo "_law_lots") rfl)
  obtain ⟨fd_is_whole, F_is_whole⟩ := c.def_ 8 rfl
  have m_is_whole := He.glo_ok X G (c.fact 8 (f := .glo "is_whole") rfl)
  obtain ⟨fd_is_side_lot, F_is_side_lot⟩ := c.def_ 9 rfl
  have m_is_side_lot := He.glo_ok X G (c.fact 9 (f := .glo "is_side_lot") rfl)
  obtain ⟨fd_side, F_side⟩ := c.def_ 10 rfl
  have m_side := He.glo_ok X G (c.fact 10 (f := .glo "side") rfl)
  obtain ⟨fd_init_Book, F_init_Book⟩ := c.def_ 11 rfl
  obtain ⟨fd_sides_cross, F_sides_cross⟩ := c.def_ 12 rfl
  have m_sides_cross := He.glo_ok X G (c.fact 11 (f := .glo "sides_cross") rfl)
  obtain ⟨fd_crossing_pairs, F_crossing_pairs⟩ := c.def_ 13 rfl
  have m_crossing_pairs := He.glo_ok X G (c.fact 12 (f := .glo "crossing_pairs") rfl)
  obtain ⟨fd_check_nested, F_check_nested⟩ := c.def_ 14 rfl
  have m_check_nested := He.glo_ok X G (c.fact 13 (f := .glo "check_nested") rfl)
  obtain ⟨fd_members, F_members⟩ := c.def_ 15 rfl
  have m_members := He.glo_ok X G (c.fact 14 (f := .glo "members") rfl)
  obtain ⟨fd_size, F_size⟩ := c.def_ 16 rfl
  have m_size := He.glo_ok X G (c.fact 15 (f := .glo "size") rfl)
  obtain ⟨fd_smallest_with, F_smallest_with⟩ := c.def_ 17 rfl
  have m_smallest_with := He.glo_ok X G (c.fact 16 (f := .glo "smallest_with") rfl)
  obtain ⟨fd_has, F_has⟩ := c.def_ 18 rfl
  have m_has := He.glo_ok X G (c.fact 17 (f := .glo "has") rfl)
  obtain ⟨fd_smallest_holding, F_smallest_holding⟩ := c.def_ 19 rfl
  have m_smallest_holding := He.glo_ok X G (c.fact 18 (f := .glo "smallest_holding") rfl)
  obtain ⟨fd_init_Tree, F_init_Tree⟩ := c.def_ 20 rfl
  obtain ⟨fd_tree_of, F_tree_of⟩ := c.def_ 21 rfl
  have m_tree_of := He.glo_ok X G (c.fact 19 (f := .glo "tree_of") rfl)
  obtain ⟨fd__law_refused, F__law_refused⟩ := c.def_ 22 rfl
  have m__law_refused := He.glo_ok X G (c.fact 20 (f := .glo "_law_refused") rfl)
  obtain ⟨fd_meth_Book___eq__, F_meth_Book___eq__⟩ := c.def_ 23 rfl
  obtain ⟨fd_meth_Book___ne__, F_meth_Book___ne__⟩ := c.def_ 24 rfl
  obtain ⟨fd__law_members, F__law_members⟩ := c.def_ 25 rfl
  have m__law_members := He.glo_ok X G (c.fact 21 (f := .glo "_law_members") rfl)
  obtain ⟨fd__law_count, F__law_count⟩ := c.def_ 26 rfl
  have m__law_count := He.glo_ok X G (c.fact 22 (f := .glo "_law_count") rfl)
  obtain ⟨fd__law_above, F__law_above⟩ := c.def_ 27 rfl
  have m__law_above := He.glo_ok X G (c.fact 23 (f := .glo "_law_above") rfl)
  obtain ⟨fd__law_whole, F__law_whole⟩ := c.def_ 28 rfl
  have m__law_whole := He.glo_ok X G (c.fact 24 (f := .glo "_law_whole") rfl)
  obtain ⟨fd__law_line, F__law_line⟩ := c.def_ 29 rfl
  have m__law_line := He.glo_ok X G (c.fact 25 (f := .glo "_law_line") rfl)
  obtain ⟨fd_nodes_above, F_nodes_above⟩ := c.def_ 30 rfl
  have m_nodes_above := He.glo_ok X G (c.fact 26 (f := .glo "nodes_above") rfl)
  obtain ⟨fd_ties_between, F_ties_between⟩ := c.def_ 31 rfl
  have m_ties_between := He.glo_ok X G (c.fact 27 (f := .glo "ties_between") rfl)
  obtain ⟨fd__law_are_ties, F__law_are_ties⟩ := c.def_ 32 rfl
  have m__law_are_ties := He.glo_ok X G (c.fact 28 (f := .glo "_law_are_ties") rfl)
  obtain ⟨fd_law, F_law⟩ := c.def_ 33 rfl
  have m_law := He.glo_ok X G (c.fact 29 (f := .glo "law") rfl)
  have m_BadLot := He.glo_ok X G (c.fact 41 (f := .glo "BadLot") rfl)
  have m_Book := He.glo_ok X G (c.fact 42 (f := .glo "Book") rfl)
  have m_ThreeCross := He.glo_ok X G (c.fact 43 (f := .glo "ThreeCross") rfl)
  have m_TownError := He.glo_ok X G (c.fact 44 (f := .glo "TownError") rfl)
  have m_Tree := He.glo_ok X G (c.fact 45 (f := .glo "Tree") rfl)
  have m_TwoCross := He.glo_ok X G (c.fact 46 (f := .glo "TwoCross") rfl)
  have kc_Book : Cls K ((clOf clNames K).f 6) := He.cls_ok (c.fact 35 (f := .cls "Book") rfl)
  have kc_Tree : Cls K ((clOf clNames K).f 5) := He.cls_ok (c.fact 36 (f := .cls "Tree") rfl)
  have mk_Book : Mk K ((clOf clNames K).f 6) (He.fAd K ("Book", some "__init__")) := He.mkr_ok (c.fact 37 (f := .mkr "Book") rfl)
  have mk_Tree : Mk K ((clOf clNames K).f 5) (He.fAd K ("Tree", some "__init__")) := He.mkr_ok (c.fact 38 (f := .mkr "Tree") rfl)
  have mm_Book___eq__ : Meth K ((clOf clNames K).f 6) "__eq__" (He.fAd K ("Book", some "__eq__")) := He.meth_ok (c.fact 39 (f := .meth "Book" "__eq__") rfl)
  have mm_Book___ne__ : Meth K ((clOf clNames K).f 6) "__ne__" (He.fAd K ("Book", some "__ne__")) := He.meth_ok (c.fact 40 (f := .meth "Book" "__ne__") rfl)
  have ia_Tree : InsA K ((clOf clNames K).f 5) := insB_ok (c.x 8 rfl)
  have ia_Book : InsA K ((clOf clNames K).f 6) := insB_ok (c.x 9 rfl)
  have tk_Book := iskB_ok (ns := clNames) (c.x 7 rfl)
  have ik_Book : InsAll K (clOf clNames K) (lookK tabk_Book) := fun c b e => by
    have e2 := mem_lookupK e
    simp only [tabk_Book, List.mem_cons, Prod.mk.injEq, Sum.inr.injEq, reduceCtorEq, false_and, false_or, List.not_mem_nil, or_false] at e2
    rcases e2 with ⟨rfl, _⟩ | ⟨rfl, _⟩
    · exact ia_Tree
    · exact ia_Book
  have tk_Tree := iskB_ok (ns := clNames) (c.x 10 rfl)
  have ik_Tree : InsAll K (clOf clNames K) (lookK tabk_Tree) := fun c b e => by
    have e2 := mem_lookupK e
    simp only [tabk_Tree, List.mem_cons, Prod.mk.injEq, Sum.inr.injEq, reduceCtorEq, false_and, false_or, List.not_mem_nil, or_false] at e2
    rcases e2 with ⟨rfl, _⟩ | ⟨rfl, _⟩
    · exact ia_Tree
    · exact ia_Book
  have fn_Book_many : NoAttr K ((clOf clNames K).f 6) "many" := He.noat_ok (c.fact 30 (f := .noat "Book" "many") rfl)
  have fn_Book_sides : NoAttr K ((clOf clNames K).f 6) "sides" := He.noat_ok (c.fact 31 (f := .noat "Book" "sides") rfl)
  have fo_many : FldOk K (clOf clNames K) "many" [6] := FldOk.cons kc_Book (He.noat_ok (c.fact 30 (f := .noat "Book" "many") rfl)) (FldOk.nil)
  have fo_sides : FldOk K (clOf clNames K) "sides" [6] := FldOk.cons kc_Book (He.noat_ok (c.fact 31 (f := .noat "Book" "sides") rfl)) (FldOk.nil)
  have fn_Tree_book : NoAttr K ((clOf clNames K).f 5) "book" := He.noat_ok (c.fact 32 (f := .noat "Tree" "book") rfl)
  have fn_Tree_gate_nodes : NoAttr K ((clOf clNames K).f 5) "gate_nodes" := He.noat_ok (c.fact 33 (f := .noat "Tree" "gate_nodes") rfl)
  have fn_Tree_parents : NoAttr K ((clOf clNames K).f 5) "parents" := He.noat_ok (c.fact 34 (f := .noat "Tree" "parents") rfl)
  have fo_parents : FldOk K (clOf clNames K) "parents" [5] := FldOk.cons kc_Tree (He.noat_ok (c.fact 34 (f := .noat "Tree" "parents") rfl)) (FldOk.nil)
  have fo_book : FldOk K (clOf clNames K) "book" [5] := FldOk.cons kc_Tree (He.noat_ok (c.fact 32 (f := .noat "Tree" "book") rfl)) (FldOk.nil)
  have fo_gate_nodes : FldOk K (clOf clNames K) "gate_nodes" [5] := FldOk.cons kc_Tree (He.noat_ok (c.fact 33 (f := .noat "Tree" "gate_nodes") rfl)) (FldOk.nil)
  have g_bool := He.free_ok X G (c.fact 47 (f := .free "bool") rfl)
  have g_int := He.free_ok X G (c.fact 48 (f := .free "int") rfl)
  have g_isinstance := He.free_ok X G (c.fact 49 (f := .free "isinstance") rfl)
  have g_len := He.free_ok X G (c.fact 50 (f := .free "len") rfl)
  have g_list := He.free_ok X G (c.fact 51 (f := .free "list") rfl)
  have g_max := He.free_ok X G (c.fact 52 (f := .free "max") rfl)
  have g_range := He.free_ok X G (c.fact 53 (f := .free "range") rfl)
  have g_sorted := He.free_ok X G (c.fact 54 (f := .free "sorted") rfl)
  have g_sum := He.free_ok X G (c.fact 55 (f := .free "sum") rfl)
  have g_tuple := He.free_ok X G (c.fact 56 (f := .free "tuple") rfl)
  obtain ⟨ox_BadLot, is_BadLot, xf_BadLot⟩ := excB_ok (c.x 0 rfl)
  obtain ⟨ox_TwoCross, is_TwoCross, xf_TwoCross⟩ := excB_ok (c.x 1 rfl)
  have e_TwoCross := exmB_ok (ns := clNames) (c.x 4 rfl)
  have i_ThreeCross := kitsB_ok (ns := clNames) (c.x 5 rfl)
  have i_TownError := kitsB_ok (ns := clNames) (c.x 6 rfl)
  have na_TwoCross_pair := He.noat_ok (c.fact 58 (f := .noat "TwoCross" "pair") rfl)
  obtain ⟨fdI_BadLot, FI_BadLot⟩ := c.def_ 34 rfl
  obtain ⟨iC_BadLot, tI_BadLot⟩ := iniB_ok (c.x 2 rfl)
  have nx_BadLot_lot := He.noat_ok (c.fact 57 (f := .noat "BadLot" "lot") rfl)
  have x_BadLot : ∀ base : Heap, Xok (clOf clNames K) Pr w K mg base "BadLot" 1 ["lot"] := fun base =>
    xok1 (N := ["self", "lot"]) FI_BadLot ⟨rfl, rfl, rfl, by decide +kernel, rfl, by decide +kernel, by decide +kernel⟩ ox_BadLot iC_BadLot tI_BadLot nx_BadLot_lot m_BadLot rfl (fun _ _ _ _ _ _ us hl => match us, hl with | [_, _], _ => rfl) (fun cdv A outer s H E => pss_one (ps_ost (pe_var (i := 0) rfl (.inl rfl)) (pe_var (i := 1) rfl (.inl rfl))))
  obtain ⟨fdI_TwoCross, FI_TwoCross⟩ := c.def_ 35 rfl
  obtain ⟨iC_TwoCross, tI_TwoCross⟩ := iniB_ok (c.x 3 rfl)
  have nx_TwoCross_pair := He.noat_ok (c.fact 58 (f := .noat "TwoCross" "pair") rfl)
  have x_TwoCross : ∀ base : Heap, Xok (clOf clNames K) Pr w K mg base "TwoCross" 3 ["pair"] := fun base =>
    xok1 (N := ["self", "pair"]) FI_TwoCross ⟨rfl, rfl, rfl, by decide +kernel, rfl, by decide +kernel, by decide +kernel⟩ ox_TwoCross iC_TwoCross tI_TwoCross nx_TwoCross_pair m_TwoCross rfl (fun _ _ _ _ _ _ us hl => match us, hl with | [_, _], _ => rfl) (fun cdv A outer s H E => pss_one (ps_ost (pe_var (i := 0) rfl (.inl rfl)) (pe_var (i := 1) rfl (.inl rfl))))
  have e := hfa.symm.trans m_law
  cases e
  have b := FunD.bindsA (ps := ["script"]) F_law fun _ _ _ _ _ _ us hl => match us, hl with | [_], _ => rfl
  refine ⟨fd_law, fun s v => b s [v] rfl, fun base _ _ => ?_⟩
  have D__law_digits := ok__law_digits (cl := clOf clNames K) (Pr := Pr) (w := w) (K := K) (mg := mg) (base := base) F__law_digits m__law_digits rfl g_int g_len g_range
  have D__law_cell := ok__law_cell (cl := clOf clNames K) (Pr := Pr) (w := w) (K := K) (mg := mg) (base := base) F__law_cell m__law_cell rfl g_int g_len
  have D__law_bit := ok__law_bit (cl := clOf clNames K) (Pr := Pr) (w := w) (K := K) (mg := mg) (base := base) F__law_bit m__law_bit rfl g_int
  have D__law_side := ok__law_side (cl := clOf clNames K) (Pr := Pr) (w := w) (K := K) (mg := mg) (base := base) F__law_side m__law_side D__law_bit rfl
  have D__law_cross := ok__law_cross (cl := clOf clNames K) (Pr := Pr) (w := w) (K := K) (mg := mg) (base := base) F__law_cross m__law_cross D__law_bit rfl g_range
  have D__law_first_three := ok__law_first_three (cl := clOf clNames K) (Pr := Pr) (w := w) (K := K) (mg := mg) (base := base) F__law_first_three m__law_first_three D__law_cross rfl g_len g_range
  have D__law_first_two := ok__law_first_two (cl := clOf clNames K) (Pr := Pr) (w := w) (K := K) (mg := mg) (base := base) F__law_first_two m__law_first_two D__law_cross rfl g_len g_range
  have D__law_lots := ok__law_lots (cl := clOf clNames K) (Pr := Pr) (w := w) (K := K) (mg := mg) (base := base) F__law_lots m__law_lots D__law_digits D__law_first_three D__law_first_two D__law_side rfl g_len g_max g_range g_sorted
  have D_is_whole := ok_is_whole (cl := clOf clNames K) (Pr := Pr) (w := w) (K := K) (mg := mg) (base := base) F_is_whole m_is_whole rfl g_bool g_int g_isinstance
  have D_is_side_lot := ok_is_side_lot (cl := clOf clNames K) (Pr := Pr) (w := w) (K := K) (mg := mg) (base := base) F_is_side_lot m_is_side_lot D_is_whole rfl
  have D_side := ok_side (cl := clOf clNames K) (Pr := Pr) (w := w) (K := K) (mg := mg) (base := base) F_side m_side D_is_side_lot rfl (x_BadLot base)
  have I_Book := ok_init_Book (cl := clOf clNames K) (Pr := Pr) (w := w) (K := K) (mg := mg) (base := base) mk_Book m_Book F_init_Book D_side rfl g_sorted g_tuple kc_Book fn_Book_many fn_Book_sides
  have D_sides_cross := ok_sides_cross (cl := clOf clNames K) (Pr := Pr) (w := w) (K := K) (mg := mg) (base := base) F_sides_cross m_sides_cross rfl
  have D_crossing_pairs := ok_crossing_pairs (cl := clOf clNames K) (Pr := Pr) (w := w) (K := K) (mg := mg) (base := base) F_crossing_pairs m_crossing_pairs D_sides_cross rfl g_len g_range g_tuple fo_many fo_sides
  have D_check_nested := ok_check_nested (cl := clOf clNames K) (Pr := Pr) (w := w) (K := K) (mg := mg) (base := base) F_check_nested m_check_nested D_crossing_pairs rfl g_len (x_TwoCross base)
  have D_members := ok_members (cl := clOf clNames K) (Pr := Pr) (w := w) (K := K) (mg := mg) (base := base) F_members m_members rfl g_tuple
  have D_size := ok_size (cl := clOf clNames K) (Pr := Pr) (w := w) (K := K) (mg := mg) (base := base) F_size m_size D_members rfl g_len
  have D_smallest_with := ok_smallest_with (cl := clOf clNames K) (Pr := Pr) (w := w) (K := K) (mg := mg) (base := base) F_smallest_with m_smallest_with D_size rfl g_len g_range
  have D_has := ok_has (cl := clOf clNames K) (Pr := Pr) (w := w) (K := K) (mg := mg) (base := base) F_has m_has rfl
  have D_smallest_holding := ok_smallest_holding (cl := clOf clNames K) (Pr := Pr) (w := w) (K := K) (mg := mg) (base := base) F_smallest_holding m_smallest_holding D_has D_size rfl g_len g_range
  have I_Tree := ok_init_Tree (cl := clOf clNames K) (Pr := Pr) (w := w) (K := K) (mg := mg) (base := base) mk_Tree m_Tree F_init_Tree rfl kc_Tree fn_Tree_book fn_Tree_gate_nodes fn_Tree_parents
  have D_tree_of := ok_tree_of (cl := clOf clNames K) (Pr := Pr) (w := w) (K := K) (mg := mg) (base := base) F_tree_of m_tree_of D_check_nested D_smallest_holding D_smallest_with I_Tree rfl g_range g_tuple fo_many fo_sides
  have D__law_refused := ok__law_refused (cl := clOf clNames K) (Pr := Pr) (w := w) (K := K) (mg := mg) (base := base) F__law_refused m__law_refused D_tree_of rfl g_isinstance m_ThreeCross m_TownError m_TwoCross e_TwoCross i_ThreeCross i_TownError xf_TwoCross na_TwoCross_pair rfl
  have M_Book___eq__ := ok_meth_Book___eq__ (cl := clOf clNames K) (Pr := Pr) (w := w) (K := K) (mg := mg) (base := base) mm_Book___eq__ F_meth_Book___eq__ rfl g_isinstance ik_Book tk_Book fo_many fo_sides m_Book
  have M_Book___ne__ := ok_meth_Book___ne__ (cl := clOf clNames K) (Pr := Pr) (w := w) (K := K) (mg := mg) (base := base) mm_Book___ne__ F_meth_Book___ne__ M_Book___eq__ rfl
  have D__law_members := ok__law_members (cl := clOf clNames K) (Pr := Pr) (w := w) (K := K) (mg := mg) (base := base) F__law_members m__law_members D__law_bit rfl g_range
  have D__law_count := ok__law_count (cl := clOf clNames K) (Pr := Pr) (w := w) (K := K) (mg := mg) (base := base) F__law_count m__law_count D__law_members rfl g_len
  have D__law_above := ok__law_above (cl := clOf clNames K) (Pr := Pr) (w := w) (K := K) (mg := mg) (base := base) F__law_above m__law_above D__law_bit D__law_count rfl g_len g_range
  have D__law_whole := ok__law_whole (cl := clOf clNames K) (Pr := Pr) (w := w) (K := K) (mg := mg) (base := base) F__law_whole m__law_whole rfl g_bool g_int g_isinstance
  have D__law_line := ok__law_line (cl := clOf clNames K) (Pr := Pr) (w := w) (K := K) (mg := mg) (base := base) F__law_line m__law_line rfl g_range
  have D_nodes_above := ok_nodes_above (cl := clOf clNames K) (Pr := Pr) (w := w) (K := K) (mg := mg) (base := base) F_nodes_above m_nodes_above rfl fo_parents
  have D_ties_between := ok_ties_between (cl := clOf clNames K) (Pr := Pr) (w := w) (K := K) (mg := mg) (base := base) F_ties_between m_ties_between D_nodes_above rfl g_sorted g_tuple
  have D__law_are_ties := ok__law_are_ties (cl := clOf clNames K) (Pr := Pr) (w := w) (K := K) (mg := mg) (base := base) F__law_are_ties m__law_are_ties D__law_line D_ties_between rfl g_isinstance g_list g_range g_tuple
  exact okF_law F_law D__law_above D__law_are_ties D__law_cell D__law_digits D__law_first_two D__law_line D__law_lots D__law_refused D__law_side D__law_whole D_ties_between D_tree_of I_Book M_Book___ne__ rfl g_int g_isinstance g_len g_list g_range g_sorted g_sum g_tuple ik_Tree tk_Tree fo_book fo_gate_nodes fo_parents m_Tree
end Lw
section
open PySem PySem.W PySem.Calls PyProof.Rows
theorem lw_holds (pure : ∀ ns : List Int, ns.length ≤ 63 → Lw.f_law 1 [.ro (ns.map Py.T.int)] = .ok (.bl true)) : PySem.Challenge.rw_fullsides_k81_trees.Holds := by
  w_on; o_law
  refine HandSHeadRun.head_any (r := OpenLaw.row PySem.Challenge.rw_fullsides_k81_trees) (q := view (OpenLaw.row PySem.Challenge.rw_fullsides_k81_trees).prog [46]) (H := Lw.hk) (ob := Lw.ob) (M := 4000) (loose := Lw.loose) (d := HandSHeadRun.topDef (OpenLaw.row PySem.Challenge.rw_fullsides_k81_trees).prog 46) (kwd := []) Lw.ob_eq
    (by kernel_rfl) (fun s => by kernel_rfl) Lw.topRun (by kernel_rfl) (by kernel_rfl) (by kernel_rfl) (by rfl) (by first | assumption | decide +kernel) (by decide +kernel) ⟨rfl, rfl, rfl, rfl, rfl, by decide +kernel⟩ ?hw ?hc
  case hw => w_witness2
  case hc =>
    refine Py.walk_end (l := PySem.Challenge.rw_fullsides_k81_trees) (n := 63) (k := 6) (x := "script") rfl (by decide) (by kernel_rfl) ⟨rfl, by decide, by decide⟩ ?F
    intro w mg fa h Y G hmg0
    obtain ⟨K, KX, c⟩ := Y
    have hmg : mg ("law" : PySem.Str) = some (.ref fa) := by
      have e : (HandSHeadRun.topDef (OpenLaw.row PySem.Challenge.rw_fullsides_k81_trees).prog 46).name = ("law" : PySem.Str) := by kernel_rfl
      rw [← e]
      exact hmg0
    obtain ⟨fd, hb, hF⟩ := Lw.facts (Pr := (PySem.Challenge.rw_fullsides_k81_trees).prog) (w := w) KX G hmg c
    exact ⟨K, fd, Py.spT _ 1 Lw.f_law, KX, hb, fun H a ns hl _ _ hS => Py.law_end (pure ns hl) hS, hF⟩
end
namespace Lw
end Lw

set_option Elab.async false
set_option linter.all false
set_option maxRecDepth 100000
set_option maxHeartbeats 4000000
namespace Lw
open PySem L2 Py
theorem cell_eq (d : Nat) (ts : List T) : f__law_cell d ts = Py.run 4 (LL.S_cell d) ts := rfl
theorem digits_eq (d : Nat) (ts : List T) : f__law_digits d ts = Py.run 8 (LL.S_digits d) ts := rfl
theorem bit_eq : f__law_bit = LL.f_bit := rfl
theorem whole_eq2 : f_is_whole = LL.f_whole := rfl
theorem lside_eq : f__law_side = LL.f_lside := rfl
/-! ### crossing -/
def crN (g a b : Nat) : Bool := (List.range g).any (fun k => a.testBit k && b.testBit k) && ((List.range g).any (fun k => a.testBit k && !b.testBit k) && ((List.range g).any (fun k => !a.testBit k && b.testBit k) && (List.range g).any (fun k => !a.testBit k && !b.testBit k)))
def seenB (a b k j : Nat) : Bool := (List.range k).any fun i => 2 * (a.testBit i).toNat + (b.testBit i).toNat == j
theorem seenB_succ (a b k j : Nat) : seenB a b (k + 1) j = (seenB a b k j || (2 * (a.testBit k).toNat + (b.testBit k).toNat == j)) := by
  unfold seenB
  rw [List.range_succ, List.any_append]
  simp
def seenT (a b k : Nat) : List T := [.bl (seenB a b k 0), .bl (seenB a b k 1), .bl (seenB a b k 2), .bl (seenB a b k 3)]
theorem seenT_succ (a b k : Nat) : (seenT a b k).set (2 * (a.testBit k).toNat + (b.testBit k).toNat) (.bl true) = seenT a b (k + 1) := by
  unfold seenT
  rw [seenB_succ, seenB_succ, seenB_succ, seenB_succ]
  cases a.testBit k <;> cases b.testBit k <;> simp
theorem crN_seen (g a b : Nat) : crN g a b = (seenB a b g 3 && (seenB a b g 2 && (seenB a b g 1 && seenB a b g 0))) := by
  have e : ∀ (f f' : Nat → Bool), (∀ i, f i = f' i) → (List.range g).any f = (List.range g).any f' := fun f f' h => by rw [funext h]
  unfold crN seenB
  rw [e (fun k => a.testBit k && b.testBit k) (fun i => 2 * (a.testBit i).toNat + (b.testBit i).toNat == 3) (fun i => by cases a.testBit i <;> cases b.testBit i <;> rfl),
    e (fun k => a.testBit k && !b.testBit k) (fun i => 2 * (a.testBit i).toNat + (b.testBit i).toNat == 2) (fun i => by cases a.testBit i <;> cases b.testBit i <;> rfl),
    e (fun k => !a.testBit k && b.testBit k) (fun i => 2 * (a.testBit i).toNat + (b.testBit i).toNat == 1) (fun i => by cases a.testBit i <;> cases b.testBit i <;> rfl),
    e (fun k => !a.testBit k && !b.testBit k) (fun i => 2 * (a.testBit i).toNat + (b.testBit i).toNat == 0) (fun i => by cases a.testBit i <;> cases b.testBit i <;> rfl)]
theorem cross_ev (d g a b : Nat) (hg : g ≤ 1000) : f__law_cross d [nT g, nT a, nT b] = .ok (.bl (crN g a b)) := by
  have hr : rfit (g : Int) = true := rfit_ok (by omega) (by omega)
  refine run_is ?_
  simp [ent_eq, S__law_cross, hr, lfit_ok]
  refine sat_rngN (fun k e => ∃ o, e = [some (.fz (nT g)), some (.fz (nT a)), some (.fz (nT b)), some (.ol (seenT a b k)), o]) 0 rfl ⟨none, rfl⟩ ?_ ?_
  · rintro k e hk ⟨o, rfl⟩
    refine ⟨_, rfl, ?_⟩
    have h1 := bit_ev (d + 1) a k (by omega)
    have h2 := bit_ev (d + 1) b k (by omega)
    have hm : T.mul (.int 2) (.int (((a.testBit k).toNat : Nat) : Int)) = some (.int (2 * ((a.testBit k).toNat : Nat))) := mul_small (nat_lt_big (by omega) (by omega)) (nat_lt_big (by omega) (by cases a.testBit k <;> simp))
    have hl : 2 * (a.testBit k).toNat + (b.testBit k).toNat < (seenT a b k).length := by
      show _ < 4
      cases a.testBit k <;> cases b.testBit k <;> simp
    have hs : ∀ env, setXJ 3 (.bl true) env (seenT a b k) (.int (2 * (((a.testBit k).toNat : Nat) : Int) + (((b.testBit k).toNat : Nat) : Int))) = .nx (env.set 3 (some (.ol (seenT a b (k + 1))))) := fun env => by
      rw [show (2 * (((a.testBit k).toNat : Nat) : Int) + (((b.testBit k).toNat : Nat) : Int)) = ((2 * (a.testBit k).toNat + (b.testBit k).toNat : Nat) : Int) by simp, setXJ_nat hl rfl, seenT_succ]
    simp [bit_eq, h1, h2, hm, hs]
  · rintro e ⟨o, rfl⟩
    have he : T.eq (.lst (some (d, 3)) (seenT a b g)) (.lst none [.bl true, .bl true, .bl true, .bl true]) = some (.bl (crN g a b)) := by
      rw [crN_seen]
      unfold seenT
      generalize seenB a b g 0 = x0
      generalize seenB a b g 1 = x1
      generalize seenB a b g 2 = x2
      generalize seenB a b g 3 = x3
      cases x0 <;> cases x1 <;> cases x2 <;> cases x3 <;> rfl
    simp [lfit_ok, he]
/-- the program's look -/
def crB (m a b : Int) : Bool := !decide (Builtin.bitAnd a b = 0) && (!decide (Builtin.bitAnd a (Builtin.bitNot b) = 0) && (!decide (Builtin.bitAnd b (Builtin.bitNot a) = 0) && !decide (2 ^ m.toNat - 1 - Builtin.bitOr a b = 0)))
theorem ev_sc {d : Nat} {m a b : Int} (h0 : 0 ≤ m) (h1 : m ≤ 1000) : f_sides_cross d [.int m, .int a, .int b] = .ok (.bl (crB m a b)) := by
  have hs := shl_one (j := m) h0 (by omega)
  unfold crB
  by_cases k1 : Builtin.bitAnd a b = 0
  · simp [f_sides_cross, run_eq, ent_eq, S_sides_cross, hs, k1]
  · by_cases k2 : Builtin.bitAnd a (Builtin.bitNot b) = 0
    · simp [f_sides_cross, run_eq, ent_eq, S_sides_cross, hs, k1, k2]
    · by_cases k3 : Builtin.bitAnd b (Builtin.bitNot a) = 0
      · simp [f_sides_cross, run_eq, ent_eq, S_sides_cross, hs, k1, k2, k3]
      · simp [f_sides_cross, run_eq, ent_eq, S_sides_cross, hs, k1, k2, k3]
def crAll (n : Nat) : Bool := (List.range (2 ^ n)).all fun i => (List.range (2 ^ n)).all fun j => crB n (i : Int) (j : Int) == crN n i j
theorem crAll2 : crAll 2 = true := by decide +kernel
theorem crAll3 : crAll 3 = true := by decide +kernel
theorem crAll4 : crAll 4 = true := by decide +kernel
theorem crAll5 : crAll 5 = true := by decide +kernel
theorem crAll6 : crAll 6 = true := by decide +kernel
def G26 (g : Nat) : Prop := 2 ≤ g ∧ g ≤ 6
theorem crB_eq {g a b : Nat} (hg : G26 g) (ha : a < 2 ^ g) (hb : b < 2 ^ g) : crB g a b = crN g a b := by
  have h : crAll g = true := by
    obtain ⟨h1, h2⟩ := hg
    match g, h1, h2 with
    | 2, _, _ => exact crAll2
    | 3, _, _ => exact crAll3
    | 4, _, _ => exact crAll4
    | 5, _, _ => exact crAll5
    | 6, _, _ => exact crAll6
  exact eq_of_beq (List.all_eq_true.mp (List.all_eq_true.mp h a (List.mem_range.mpr ha)) b (List.mem_range.mpr hb))
theorem sc_ev {d g a b : Nat} (hg : G26 g) (ha : a < 2 ^ g) (hb : b < 2 ^ g) : f_sides_cross d [nT g, nT a, nT b] = .ok (.bl (crN g a b)) := by
  have := ev_sc (d := d) (m := (g : Int)) (a := (a : Int)) (b := (b : Int)) (by omega) (by have := hg.2; omega)
  rw [crB_eq hg ha hb] at this
  exact this
/-! ### sides -/
def Lot (g a : Nat) : Prop := 0 < a ∧ a < 2 ^ g - 1
theorem side_ev {d g a : Nat} (hg : G26 g) (h : Lot g a) : f_side d [nT g, nT a] = .ok (nT (sideN g a)) := by
  have hgI : ((g : Nat) : Int).toNat = g := rfl
  have hs := shl_one (j := (g : Int)) (by omega) (by have := hg.2; omega)
  have hp : ((2 ^ g : Nat) : Int) = 2 ^ g := by simp
  have h0 : (0 : Int) < (a : Int) := by have := h.1; omega
  have h1 : (a : Int) < 2 ^ g - 1 := by have := h.2; omega
  have hw := whole_int (d + 2) (a : Int)
  have ha0 : ¬ a = 0 := by have := h.1; omega
  have hl : f_is_side_lot (d + 1) [nT g, nT a] = .ok (.bl true) := by
    simp [f_is_side_lot, run_eq, ent_eq, S_is_side_lot, whole_eq2, hw, hs, h0, h1, ha0]
  have hb : Builtin.bitAnd (a : Int) 1 = (((a.testBit 0).toNat : Nat) : Int) := by
    show ((Nat.land a 1 : Nat) : Int) = _
    have e : Nat.land a 1 = (a.testBit 0).toNat := by
      rw [show Nat.land a 1 = a &&& 1 from rfl, Nat.and_one_is_mod, Nat.testBit_zero]
      rcases Nat.mod_two_eq_zero_or_one a with z | z <;> simp [z]
    rw [e]
  unfold sideN
  cases c : a.testBit 0 with
  | true =>
    rw [c] at hb
    have e : (2 : Int) ^ g - 1 - (a : Int) = ((2 ^ g - 1 - a : Nat) : Int) := by omega
    simp [f_side, run_eq, ent_eq, S_side, hl, hs, hb, e]
  | false =>
    rw [c] at hb
    simp [f_side, run_eq, ent_eq, S_side, hl, hs, hb]
theorem sideN_lot {g a : Nat} (h : Lot g a) : Lot g (sideN g a) := by
  unfold sideN Lot at *
  split <;> omega
theorem lside_lot {d g a : Nat} (hg : G26 g) (h : Lot g a) : f__law_side d [nT g, nT a] = .ok (nT (sideN g a)) := lside_ev d g a (by have := hg.2; omega) (by have := h.2; omega)
/-! ### pairs -/
def prs (g : Nat) : List Nat → List (Nat × Nat)
  | [] => []
  | x :: xs => ((xs.filter (crN g x)).map fun y => (x, y)) ++ prs g xs
def pT (p : Nat × Nat) : T := .tup [nT p.1, nT p.2]
theorem prs_len {g : Nat} : ∀ l : List Nat, (prs g l).length ≤ l.length * l.length
  | [] => Nat.zero_le _
  | x :: xs => by
    have := prs_len (g := g) xs
    have h2 : (xs.filter (crN g x)).length ≤ xs.length := List.length_filter_le _ _
    show (((xs.filter (crN g x)).map fun y => (x, y)) ++ prs g xs).length ≤ (xs.length + 1) * (xs.length + 1)
    rw [List.length_append, List.length_map, Nat.add_mul, Nat.mul_add]
    omega
theorem szl {n : Nat} (h : n ≤ 1000000) : n < sizeLine := Nat.lt_of_le_of_lt h (by decide)
/-- what is found within a loop is of the whole -/
theorem acc_len {α : Type} {a b c : List α} (h : a ++ b = c) : a.length ≤ c.length := by rw [← h, List.length_append]; omega
def Small (l : List Nat) : Prop := l.length ≤ 60
/-- a book as a tree -/
def bkT (g : Nat) (l : List Nat) : T := .ins none cid_Book ["many", "sides"] [nT g, .tup (l.map nT)]
@[simp] theorem bk_many (g : Nat) (l : List Nat) : T.fld [cid_Book] "many" (bkT g l) = some (nT g) := nrfl rfl
@[simp] theorem bk_sides (g : Nat) (l : List Nat) : T.fld [cid_Book] "sides" (bkT g l) = some (.tup (l.map nT)) := nrfl rfl
def Lots (g : Nat) (l : List Nat) : Prop := ∀ a ∈ l, Lot g a
theorem Lots.lt {g : Nat} {l : List Nat} (h : Lots g l) {j : Nat} (hj : j < l.length) : l[j] < 2 ^ g := by
  have := h _ (List.getElem_mem hj)
  have := this.2
  omega
theorem cpairs_ev (d g : Nat) (l : List Nat) (hg : G26 g) (hl : Small l) (hL : Lots g l) : f_crossing_pairs d [bkT g l] = .ok (.tup ((prs g l).map pT)) := by
  have hn : l.length ≤ 60 := hl
  have hr : rfit (l.length : Int) = true := rfit_ok (by omega) (by omega)
  have hpl := prs_len (g := g) l
  have hpl2 : (prs g l).length ≤ 3600 := Nat.le_trans hpl (Nat.mul_le_mul hn hn)
  refine run_is ?_
  simp [ent_eq, S_crossing_pairs, hr, lfit_ok]
  refine sat_rngN (fun j e => ∃ acc o1 o2, e = [some (.fz (bkT g l)), some (.ol (acc.map pT)), o1, o2] ∧ acc ++ prs g (l.drop j) = prs g l) 0 rfl ⟨[], none, none, rfl, rfl⟩ ?_ ?_
  · rintro j e hj ⟨acc, o1, o2, rfl, hacc⟩
    have hj' : j < l.length := by simpa using hj
    refine ⟨_, rfl, ?_⟩
    have hr2 : rfit ((j : Int) + 1) = true := rfit_ok (by omega) (by omega)
    simp [hr, hr2]
    rw [List.drop_eq_getElem_cons hj'] at hacc
    refine sat_rngN (fun k e => ∃ acc' o, e = [some (.fz (bkT g l)), some (.ol (acc'.map pT)), some (.fz (nT j)), o] ∧ acc' ++ ((((l.drop (j + 1 + k)).filter (crN g l[j])).map fun y => (l[j], y)) ++ prs g (l.drop (j + 1))) = prs g l) (j + 1) (by simp) ⟨acc, o2, rfl, hacc⟩ ?_ ?_
    · rintro k e hk ⟨acc', o, rfl, hacc'⟩
      have hk' : j + 1 + k < l.length := by omega
      refine ⟨_, rfl, ?_⟩
      have i1 := atI_map (g := nT) hj'
      have i2 := atI_mapI (g := nT) (l := l) (z := (j : Int) + 1 + (k : Int)) (j + 1 + k) (by omega) hk'
      have hc := sc_ev (d := d + 1) hg (hL.lt hj') (hL.lt hk')
      rw [List.drop_eq_getElem_cons hk', List.filter_cons] at hacc'
      cases c : crN g l[j] l[j + 1 + k] with
      | true =>
        rw [c] at hc hacc'
        have hz : acc'.length < sizeLine := szl (Nat.le_trans (acc_len hacc') (by omega))
        simp [i1, i2, hc, lfit_ok, hz]
        refine ⟨acc' ++ [(l[j], l[j + 1 + k])], by simp [pT], ?_⟩
        simpa [Nat.add_assoc] using hacc'
      | false =>
        rw [c] at hc hacc'
        simp [i1, i2, hc]
        refine ⟨acc', rfl, ?_⟩
        simpa [Nat.add_assoc] using hacc'
    · rintro e ⟨acc', o, rfl, hacc'⟩
      refine ⟨acc', ⟨_, _, rfl⟩, ?_⟩
      rw [List.drop_eq_nil_of_le (by omega)] at hacc'
      simpa using hacc'
  · rintro e ⟨acc, o1, o2, rfl, hacc⟩
    rw [List.drop_eq_nil_of_le (by simp)] at hacc
    have e2 : acc = prs g l := by simpa [prs] using hacc
    simp [e2]
/-! ### pairs as data -/
def pD (p : Nat × Nat) : PyData := .tuple [.int (p.1 : Int), .int (p.2 : Int)]
theorem pds_prs (ps : List (Nat × Nat)) : T.pds (ps.map pT) = some (ps.map pD) := by
  induction ps with
  | nil => rfl
  | cons x l ih =>
    show (match T.pd (pT x), T.pds (l.map pT) with | some d, some ds => some (d :: ds) | _, _ => none) = _
    rw [ih]
    rfl
theorem lay_prs (l : List (Nat × Nat)) : PyData.canLayAll0 (l.map pD) = true := by
  induction l with
  | nil => rfl
  | cons x l ih =>
    show (PyData.canLay0 (pD x) && PyData.canLayAll0 (l.map pD)) = true
    rw [ih]
    rfl
theorem dep_prs (l : List (Nat × Nat)) : PyData.depthAll (l.map pD) ≤ 1 := by
  induction l with
  | nil => exact Nat.zero_le _
  | cons x l ih =>
    show max (PyData.depth (pD x)) (PyData.depthAll (l.map pD)) ≤ 1
    have : PyData.depth (pD x) = 1 := rfl
    omega
theorem shaped_prs (l : List (Nat × Nat)) : SeqAt.shaped (.list (l.map pD)) = true := by
  show (PyData.canLayAll0 (l.map pD) && decide (PyData.depthAll (l.map pD) + 1 ≤ 64)) = true
  have := dep_prs l
  rw [lay_prs, decide_eq_true (by omega)]
  rfl
theorem eqv_pD (x y : Nat × Nat) : PyData.eqv (pD x) (pD y) = (x == y) := by
  obtain ⟨a, b⟩ := x
  obtain ⟨c, d⟩ := y
  show (((a : Int) == (c : Int)) && (((b : Int) == (d : Int)) && true)) = _
  have h : ∀ m n : Nat, ((m : Int) == (n : Int)) = (m == n) := fun m n => by
    by_cases e : m = n
    · subst e; rw [beq_self_eq_true, beq_self_eq_true]
    · rw [beq_eq_false_iff_ne.mpr e, beq_eq_false_iff_ne.mpr (by omega)]
  rw [h, h, Bool.and_true]
  rfl
theorem mem_prs {g a b : Nat} : ∀ {l : List Nat}, l.Pairwise (· < ·) → ((a, b) ∈ prs g l ↔ a ∈ l ∧ b ∈ l ∧ a < b ∧ crN g a b = true)
  | [], _ => by simp [prs]
  | x :: xs, h => by
    obtain ⟨h1, h2⟩ := List.pairwise_cons.mp h
    have ih := mem_prs (g := g) (a := a) (b := b) h2
    have e : prs g (x :: xs) = ((xs.filter (crN g x)).map fun y => (x, y)) ++ prs g xs := rfl
    rw [e, List.mem_append, ih, List.mem_map]
    constructor
    · rintro (⟨y, hy, z⟩ | ⟨k1, k2, k3, k4⟩)
      · cases z
        obtain ⟨y1, y2⟩ := List.mem_filter.mp hy
        exact ⟨List.mem_cons_self, List.mem_cons_of_mem _ y1, h1 _ y1, y2⟩
      · exact ⟨List.mem_cons_of_mem _ k1, List.mem_cons_of_mem _ k2, k3, k4⟩
    · rintro ⟨k1, k2, k3, k4⟩
      rcases List.mem_cons.mp k1 with z | z
      · subst z
        rcases List.mem_cons.mp k2 with y | y
        · omega
        · exact .inl ⟨b, List.mem_filter.mpr ⟨y, k4⟩, rfl⟩
      · rcases List.mem_cons.mp k2 with y | y
        · subst y
          have := h1 _ z
          omega
        · exact .inr ⟨z, y, k3, k4⟩
theorem first3_ok (d g : Nat) (l : List Nat) (hg : g ≤ 1000) (hl : Small l) (gt : Option Tag) : ∃ t, f__law_first_three d [nT g, .lst gt (l.map nT)] = .ok t ∧ True := by
  have hn : l.length ≤ 60 := hl
  have hr : rfit (l.length : Int) = true := rfit_ok (by omega) (by omega)
  refine run_ok ?_
  simp [ent_eq, S__law_first_three, hr]
  refine sat_rngN (fun j e => ∃ o1 o2 o3, e = [some (.fz (nT g)), some (.fz (.lst gt (l.map nT))), o1, o2, o3]) 0 rfl ⟨none, none, none, rfl⟩ ?_ (fun _ _ => trivial)
  rintro i e hi ⟨o1, o2, o3, rfl⟩
  refine ⟨_, rfl, ?_⟩
  have hi' : i < l.length := by simpa using hi
  have hr2 : rfit ((i : Int) + 1) = true := rfit_ok (by omega) (by omega)
  have i1 := atI_map (g := nT) hi'
  simp [hr, hr2]
  refine sat_rngN (fun j e => ∃ o2 o3, e = [some (.fz (nT g)), some (.fz (.lst gt (l.map nT))), some (.fz (nT i)), o2, o3]) (i + 1) (by simp) ⟨o2, o3, rfl⟩ ?_ ?_
  · rintro j e hj ⟨o2, o3, rfl⟩
    refine ⟨_, rfl, ?_⟩
    have hj' : i + 1 + j < l.length := by omega
    have i2 := atI_mapI (g := nT) (l := l) (z := (i : Int) + 1 + (j : Int)) (i + 1 + j) (by omega) hj'
    have hc := cross_ev (d + 1) g l[i] l[i + 1 + j] hg
    have hr3 : rfit ((i : Int) + 1 + (j : Int) + 1) = true := rfit_ok (by omega) (by omega)
    cases c : crN g l[i] l[i + 1 + j] with
    | false =>
      rw [c] at hc
      simp [i1, i2, hc]
    | true =>
      rw [c] at hc
      simp [i1, i2, hc, hr, hr3]
      refine sat_rngN (fun k e => ∃ o3, e = [some (.fz (nT g)), some (.fz (.lst gt (l.map nT))), some (.fz (nT i)), some (.fz (nT (i + 1 + j))), o3]) (i + 1 + j + 1) (by simp) ⟨o3, by simp⟩ ?_ ?_
      · rintro k e hk ⟨o3, rfl⟩
        refine ⟨_, rfl, ?_⟩
        have hk' : i + 1 + j + 1 + k < l.length := by omega
        have i3 := atI_mapI (g := nT) (l := l) (z := (i : Int) + 1 + (j : Int) + 1 + (k : Int)) (i + 1 + j + 1 + k) (by omega) hk'
        have hc1 := cross_ev (d + 1) g l[i] l[i + 1 + j + 1 + k] hg
        have hc2 := cross_ev (d + 1) g l[i + 1 + j] l[i + 1 + j + 1 + k] hg
        cases c1 : crN g l[i] l[i + 1 + j + 1 + k] with
        | false =>
          rw [c1] at hc1
          simp [i1, i2, i3, hc1]
        | true =>
          rw [c1] at hc1
          cases c2 : crN g l[i + 1 + j] l[i + 1 + j + 1 + k] with
          | false =>
            rw [c2] at hc2
            simp [i1, i2, i3, hc1, hc2]
          | true =>
            rw [c2] at hc2
            simp [i1, i2, i3, hc1, hc2, lfit_ok]
      · rintro e ⟨o3, rfl⟩
        exact ⟨_, _, rfl⟩
  · rintro e ⟨o2, o3, rfl⟩
    exact ⟨_, _, _, rfl⟩
theorem eq_pT (x : Nat × Nat) : T.eq (pT x) (pT x) = some (.bl true) := by
  show (if (SeqAt.shaped (pD x) && SeqAt.shaped (pD x)) = true then some (T.bl (PyData.eqv (pD x) (pD x))) else none) = _
  rw [show SeqAt.shaped (pD x) = true from rfl, eqv_pD, beq_self_eq_true]
  rfl
end Lw

set_option Elab.async false
set_option linter.all false
set_option maxRecDepth 100000
set_option maxHeartbeats 4000000
namespace Lw
open PySem L2 Py
theorem sides_of {d g : Nat} {ls : List Nat} (hg : G26 g) (hL : Lots g ls) (v i : Nat) (env : Fv) (hlen : i < env.length) (h1 : env[v]? = some (some (.fz (nT g)))) (hvi : v ≠ i) :
    P.turnsC (S.tName i) P.yes (P.call (f__law_side (d + 1)) (P.cons (P.var d v) (P.cons (P.var d i) P.nil))) env (ls.map nT) = .ok ((ls.map (sideN g)).map nT) := by
  have hc := turnsC_map (tg := S.tName i) (b := P.yes) (p := P.call (f__law_side (d + 1)) (P.cons (P.var d v) (P.cons (P.var d i) P.nil))) (env := env) (g := nT) (c := fun _ => true) (f := fun a => nT (sideN g a)) ls (fun a ha => by
    refine ⟨env.set i (some (.fz (nT a))), ?_, rfl, fun _ => ?_⟩
    · rw [ev_tName, if_pos hlen]
    · have hs := lside_lot (d := d + 1) hg (hL a ha)
      have e1 : (env.set i (some (Sl.fz (nT a))))[v]? = some (some (.fz (nT g))) := by rw [List.getElem?_set_ne (fun z => hvi z.symm)]; exact h1
      have e2 : (env.set i (some (Sl.fz (nT a))))[i]? = some (some (.fz (nT a))) := List.getElem?_set_self hlen
      simp only [ev_call, ev_cons, ev_var, ev_rd, e1, e2, slT_fz, ev_nil, Res.of_some, Res.bind_ok]
      exact hs)
  rw [hc, List.filter_eq_self.mpr (fun _ _ => rfl), List.map_map]
  rfl
theorem lots_map {g : Nat} {ls : List Nat} (h : Lots g ls) : Lots g (ls.map (sideN g)) := fun a ha => by
  obtain ⟨b, hb, rfl⟩ := List.mem_map.mp ha
  exact sideN_lot (h b hb)
theorem lots_srt {g : Nat} {ls : List Nat} (h : Lots g ls) : Lots g (srt ls) := fun a ha => h a (mem_srt.mp ha)
theorem lots_app {g : Nat} {ls ms : List Nat} (h : Lots g ls) (h2 : Lots g ms) : Lots g (ls ++ ms) := fun a ha => (List.mem_append.mp ha).elim (h a) (h2 a)
theorem lots_one {g a : Nat} (h : Lot g a) : Lots g [a] := fun b hb => by rw [List.mem_singleton.mp hb]; exact h
theorem pow_ge {g : Nat} (hg : G26 g) : 4 ≤ 2 ^ g ∧ 2 ^ g ≤ 64 := ⟨Nat.pow_le_pow_right (n := 2) (by omega) hg.1, Nat.pow_le_pow_right (n := 2) (by omega) hg.2⟩
theorem nn_bl (t : T) : T.notA t .non = some (.bl (!T.nn t)) := rfl
theorem seq_thin_thin : T.eq (.str "thin") (.str "thin") = some (.bl true) := by kernel_rfl
theorem seq_thin_nested : T.eq (.str "thin") (.str "nested") = some (.bl false) := by kernel_rfl
theorem seq_nested_thin : T.eq (.str "nested") (.str "thin") = some (.bl false) := by kernel_rfl
theorem seq_nested_nested : T.eq (.str "nested") (.str "nested") = some (.bl true) := by kernel_rfl
theorem seq_any_thin : T.eq (.str "any") (.str "thin") = some (.bl false) := by kernel_rfl
theorem seq_any_nested : T.eq (.str "any") (.str "nested") = some (.bl false) := by kernel_rfl
theorem first2_ev (d g : Nat) (l : List Nat) (hg : g ≤ 1000) (hl : Small l) (gt : Option Tag) : f__law_first_two d [nT g, .lst gt (l.map nT)] = .ok (match prs g l with | [] => .non | p :: _ => .lst none [nT p.1, nT p.2]) := by
  have hn : l.length ≤ 60 := hl
  have hr : rfit (l.length : Int) = true := rfit_ok (by omega) (by omega)
  refine run_is ?_
  simp [ent_eq, S__law_first_two, hr]
  refine sat_rngN (fun j e => ∃ o1 o2, e = [some (.fz (nT g)), some (.fz (.lst gt (l.map nT))), o1, o2] ∧ prs g (l.drop j) = prs g l) 0 rfl ⟨none, none, rfl, rfl⟩ ?_ ?_
  · rintro i e hi ⟨o1, o2, rfl, hacc⟩
    refine ⟨_, rfl, ?_⟩
    have hi' : i < l.length := by simpa using hi
    have hr2 : rfit ((i : Int) + 1) = true := rfit_ok (by omega) (by omega)
    have i1 := atI_map (g := nT) hi'
    simp [hr, hr2]
    rw [List.drop_eq_getElem_cons hi'] at hacc
    refine sat_rngN (fun k e => ∃ o2, e = [some (.fz (nT g)), some (.fz (.lst gt (l.map nT))), some (.fz (nT i)), o2] ∧ ((((l.drop (i + 1 + k)).filter (crN g l[i])).map fun y => (l[i], y)) ++ prs g (l.drop (i + 1))) = prs g l) (i + 1) (by simp) ⟨o2, by simp, hacc⟩ ?_ ?_
    · rintro j e hj ⟨o2, rfl, hacc'⟩
      refine ⟨_, rfl, ?_⟩
      have hj' : i + 1 + j < l.length := by omega
      have i2 := atI_mapI (g := nT) (l := l) (z := (i : Int) + 1 + (j : Int)) (i + 1 + j) (by omega) hj'
      have hc := cross_ev (d + 1) g l[i] l[i + 1 + j] hg
      rw [List.drop_eq_getElem_cons hj', List.filter_cons] at hacc'
      cases c : crN g l[i] l[i + 1 + j] with
      | false =>
        rw [c] at hc hacc'
        simp [i1, i2, hc]
        simpa [Nat.add_assoc] using hacc'
      | true =>
        rw [c] at hc hacc'
        simp [i1, i2, hc, lfit_ok]
        rw [← hacc']
        simp
    · rintro e ⟨o2, rfl, hacc'⟩
      refine ⟨⟨_, _, rfl⟩, ?_⟩
      rw [List.drop_eq_nil_of_le (by omega)] at hacc'
      simpa using hacc'
  · rintro e ⟨o1, o2, rfl, hacc⟩
    rw [List.drop_eq_nil_of_le (by simp)] at hacc
    rw [← hacc]
    rfl
theorem lots_ev (d g most : Nat) (c : Int) (kind : Str) (hg : G26 g) (hm : most ≤ 100) (hk' : kind = "thin" ∨ kind = "nested" ∨ kind = "any") : ∃ t, f__law_lots d [.int c, nT g, nT most, .str kind] = .ok t ∧ ∃ ls : List Nat, t = .lst none (ls.map nT) ∧ Lots g ls ∧ ls.length ≤ 16 ∧ (ls.map (sideN g)).Nodup := by
  have hp := pow_ge hg
  have hs := shl_one (j := (g : Int)) (by omega) (by have := hg.2; omega)
  have hdg := digitsN_ev (d + 1) c none ([most + 1] ++ List.replicate 16 (2 ^ g - 2)) (fun s hs => by
    rcases List.mem_append.mp hs with z | z
    · rw [List.mem_singleton.mp z]
      exact ⟨by omega, Nat.lt_of_le_of_lt (show most + 1 ≤ 101 by omega) (by decide)⟩
    · rw [(List.mem_replicate.mp z).2]
      exact ⟨by omega, Nat.lt_of_le_of_lt (show 2 ^ g - 2 ≤ 64 by omega) (by decide)⟩) (by simp)
  obtain ⟨row, hrow, hdg⟩ := hdg
  have hrl : row.length = 17 := by rw [hrow.length]; simp
  have hr0 : row[0]'(by omega) < most + 1 := hrow.get (k := 0) (List.getElem?_eq_getElem _) rfl
  have hrk : ∀ k (hk : k < 16), row[1 + k]'(by omega) < 2 ^ g - 2 := fun k hk => hrow.get (k := 1 + k) (List.getElem?_eq_getElem _) (by
    rw [List.getElem?_append_right (by simp), List.getElem?_replicate]
    simp [hk])
  have e0 : T.mul (.lst none [.int (2 ^ g - 2)]) (.int 16) = some (.lst none ((List.replicate 16 (2 ^ g - 2)).map nT)) := by
    have e1 : ((2 : Int) ^ g - 2) = ((2 ^ g - 2 : Nat) : Int) := by
      have : ((2 ^ g : Nat) : Int) = 2 ^ g := by simp
      omega
    rw [e1]
    rfl
  have e2 : T.add (.lst none [.int ((most : Int) + 1)]) (.lst none ((List.replicate 16 (2 ^ g - 2)).map nT)) = some (.lst none (([most + 1] ++ List.replicate 16 (2 ^ g - 2)).map nT)) := by
    rw [addL (lfit_ok (by simp)), List.map_append]
    simp
  have hd2 := hdg
  rw [← digits_eq] at hd2
  have i0 : atI (row.map nT) 0 = some (nT (row[0]'(by omega))) := atI_map (k := 0) (by omega)
  generalize hsz : [most + 1] ++ List.replicate 16 (2 ^ g - 2) = szs at hrow hd2 e2
  generalize hsz2 : (List.replicate 16 (2 ^ g - 2)).map nT = sz2 at e0 e2
  refine run_ok ?_
  have rf : rfit 16 = true := rfl
  simp [S__law_lots, ent_eq, hs, lfit_ok, e0, e2, rf, hd2]
  refine sat_rngN (fun k e => ∃ ls o6 o7 o8 o9 o10, e = [some (.fz (.int c)), some (.fz (nT g)), some (.fz (nT most)), some (.fz (.str kind)), some (.fz (.lst none (row.map nT))), some (.ol (ls.map nT)), o6, o7, o8, o9, o10] ∧ Lots g ls ∧ ls.length ≤ k ∧ (ls.map (sideN g)).Nodup) 0 rfl ⟨[], none, none, none, none, none, rfl, (fun a h => by cases h), Nat.zero_le _, List.nodup_nil⟩ ?_ ?_
  · rintro k e hk ⟨ls, o6, o7, o8, o9, o10, rfl, hL, hlen, hN⟩
    refine ⟨_, rfl, ?_⟩
    have hk16 : k < 16 := by simpa using hk
    have ik := atI_mapI (g := nT) (l := row) (z := 1 + (k : Int)) (1 + k) (by omega) (by omega)
    generalize hx : row[1 + k]'(by omega) = x at ik
    have hxl : x < 2 ^ g - 2 := by rw [← hx]; exact hrk k hk16
    have hlot : Lot g (1 + x) := ⟨by omega, by omega⟩
    have hsd := lside_lot (d := d + 1) hg hlot
    have el : (1 : Int) + (x : Int) = ((1 + x : Nat) : Int) := by omega
    have hcp : ∀ o6 o7 o8 o9, P.turnsC (S.tName 10) P.yes (P.call (f__law_side (d + 1)) (P.cons (P.var d 1) (P.cons (P.var d 10) P.nil))) [some (.fz (.int c)), some (.fz (nT g)), some (.fz (nT most)), some (.fz (.str kind)), some (.fz (.lst none (row.map nT))), some (.ol (ls.map nT)), o6, o7, o8, o9, none] (ls.map nT) = .ok ((ls.map (sideN g)).map nT) := fun o6 o7 o8 o9 => sides_of hg hL 1 10 _ (by simp) rfl (by omega)
    have ha : T.add (.lst none ((ls.map (sideN g)).map nT)) (.lst none [nT (sideN g (1 + x))]) = some (.lst none ((ls.map (sideN g) ++ [sideN g (1 + x)]).map nT)) := by
      rw [addL (lfit_ok (by simp; omega)), List.map_append]
      rfl
    have hso := sorted_nats (ls.map (sideN g) ++ [sideN g (1 + x)]) none
    have hLs : Lots g (ls.map (sideN g) ++ [sideN g (1 + x)]) := lots_app (lots_map hL) (lots_one (sideN_lot hlot))
    have hsl : Small (srt (ls.map (sideN g) ++ [sideN g (1 + x)])) := by
      unfold Small
      rw [srt_len]
      simp
      omega
    obtain ⟨t3, h3, -⟩ := first3_ok (d + 1) g _ (by have := hg.2; omega) hsl none
    obtain ⟨t2, h2⟩ : ∃ t2, f__law_first_two (d + 1) [nT g, .lst none ((srt (ls.map (sideN g) ++ [sideN g (1 + x)])).map nT)] = .ok t2 := ⟨_, first2_ev (d + 1) g _ (by have := hg.2; omega) hsl none⟩
    have hin := (inV_nat (sideN g (1 + x)) (ls.map (sideN g))).2
    generalize hS : srt (ls.map (sideN g) ++ [sideN g (1 + x)]) = sd at hso h3 h2 hsl
    have hz : ls.length < sizeLine := szl (by omega)
    have hfl : lfit ls.length = true := lfit_ok (by omega)
    have hfm : T.frs (sd.map nT) = true := by simp
    have hN0 := hN
    have hN1 : (ls.map (sideN g)).contains (sideN g (1 + x)) = false → ((ls ++ [1 + x]).map (sideN g)).Nodup := fun hc => by
      rw [List.map_append]
      refine List.nodup_append.mpr ⟨hN, by simp, fun u hu y hy => ?_⟩
      rw [show ([1 + x].map (sideN g)) = [sideN g (1 + x)] from rfl] at hy
      rw [List.mem_singleton.mp hy]
      intro z
      subst z
      rw [List.contains_iff_mem.mpr hu] at hc
      cases hc
    rw [show (List.map (sideN g) ls) = ls.map (sideN g) from rfl] at hN1
    generalize hM : ls.map (sideN g) = ms at hcp ha hin hso hN1
    generalize hA : ms ++ [sideN g (1 + x)] = ap at ha hso
    refine sat_hide (I := fun e => ∃ ls o6 o7 o8 o9 o10, e = [some (.fz (.int c)), some (.fz (nT g)), some (.fz (nT most)), some (.fz (.str kind)), some (.fz (.lst none (row.map nT))), some (.ol (ls.map nT)), o6, o7, o8, o9, o10] ∧ Lots g ls ∧ ls.length ≤ k + 1 ∧ (ls.map (sideN g)).Nodup) (fun _ z => z) (fun J hJ => ?_)
    have fin : ∀ o6 o8 b o10, (b = true → ms.contains (sideN g (1 + x)) = false) → sat { nx := J }
      (S.ite (P.and (P.tb (P.var d 9)) (P.tb (P.bin T.lt (P.call (fun ts => .of (B.len ts)) (P.cons (P.var d 5) P.nil)) (P.call (fun ts => .of (B.max2 ts)) (P.cons (P.c (.int 1)) (P.cons (P.bin T.ix (P.var d 4) (P.c (.int 0))) P.nil))))))
        (S.app 5 (P.var d 7)) S.skip [some (.fz (.int c)), some (.fz (nT g)), some (.fz (nT most)), some (.fz (.str kind)), some (.fz (.lst none (row.map nT))), some (.ol (ls.map nT)), o6, some (.fz (nT (1 + x))), o8, some (.fz (.bl b)), o10]) := by
      intro o6 o8 b o10 hb
      have mx : ∃ z, B.max2 [.int 1, nT (row[0]'(by omega))] = some (.int z) := ⟨_, rfl⟩
      obtain ⟨z, mx⟩ := mx
      cases b with
      | false =>
        simp
        exact hJ _ ⟨ls, _, _, _, _, _, rfl, hL, by omega, hN0⟩
      | true =>
        by_cases hc : (ls.length : Int) < z
        · simp [i0, mx, hc, hz]
          exact hJ _ ⟨ls ++ [1 + x], _, _, _, _, _, by rw [List.map_append]; rfl, lots_app hL (lots_one hlot), by simp; omega, hN1 (hb rfl)⟩
        · simp [i0, mx, hc]
          exact hJ _ ⟨ls, _, _, _, _, _, rfl, hL, by omega, hN0⟩
    obtain ⟨b1, hb1⟩ : ∃ b, T.eq (.str kind) (.str "thin") = some (.bl b) := by
      rcases hk' with rfl | rfl | rfl
      · exact ⟨_, seq_thin_thin⟩
      · exact ⟨_, seq_nested_thin⟩
      · exact ⟨_, seq_any_thin⟩
    obtain ⟨b2, hb2⟩ : ∃ b, T.eq (.str kind) (.str "nested") = some (.bl b) := by
      rcases hk' with rfl | rfl | rfl
      · exact ⟨_, seq_thin_nested⟩
      · exact ⟨_, seq_nested_nested⟩
      · exact ⟨_, seq_any_nested⟩
    have hn3 := nn_bl t3
    have hn2 := nn_bl t2
    generalize T.nn t3 = n3 at hn3
    generalize T.nn t2 = n2 at hn2
    generalize hu : S.ite (P.and (P.tb (P.var d 9)) (P.tb (P.bin T.lt (P.call (fun ts => .of (B.len ts)) (P.cons (P.var d 5) P.nil)) (P.call (fun ts => .of (B.max2 ts)) (P.cons (P.c (.int 1)) (P.cons (P.bin T.ix (P.var d 4) (P.c (.int 0))) P.nil)))))) (S.app 5 (P.var d 7)) S.skip = uu at fin
    cases b1 <;> cases b2 <;> cases n3 <;> cases n2 <;> simp [ik, el, hsd, hfl, hcp, ha, hso, hin, h3, h2, hb1, hb2, hn3, hn2, lfit_ok, -Int.natCast_add] <;> exact fin _ _ _ _ (by simp)
  · rintro e ⟨ls, o6, o7, o8, o9, o10, rfl, hL, hlen, hN⟩
    simp
    exact ⟨ls, by simp, hL, hlen, hN⟩
/-- the sides of a book -/
def bs (g : Nat) (ls : List Nat) : List Nat := dd (srt (ls.map (sideN g)))
theorem bs_asc (g : Nat) (ls : List Nat) : (bs g ls).Pairwise (· < ·) := dd_asc (srt_pw _)
theorem mem_bs {g : Nat} {ls : List Nat} {a : Nat} : a ∈ bs g ls ↔ a ∈ ls.map (sideN g) := by
  unfold bs
  rw [mem_dd (srt_pw _), mem_srt]
theorem bs_lots {g : Nat} {ls : List Nat} (h : Lots g ls) : Lots g (bs g ls) := fun a ha => lots_map h a (mem_bs.mp ha)
theorem bs_len (g : Nat) (ls : List Nat) : (bs g ls).length ≤ ls.length := by
  unfold bs dd
  rw [List.length_map]
  refine Nat.le_trans (List.length_filter_le _ _) ?_
  rw [List.length_range, srt_len, List.length_map]
  exact Nat.le_refl _
theorem init_ev (d g : Nat) (ls : List Nat) (hg : G26 g) (hL : Lots g ls) (hl : ls.length ≤ 50) (gt : Option Tag) : f_init_Book d [nT g, .lst gt (ls.map nT)] = .ok (["many", "sides"], [nT g, .tup ((bs g ls).map nT)]) := by
  have key : ∃ r, f_init_Book d [nT g, .lst gt (ls.map nT)] = .ok r ∧ r = ((["many", "sides"] : List Str), [nT g, .tup ((bs g ls).map nT)]) := by
    refine runI_ok ?_
    simp [entI_eq, S_init_Book, lfit_ok]
    refine sat_map (g := nT) (fun k e => ∃ (acc : List Nat) (o4 o5 : Option Sl), e = [some (.oi cid_Book [] []), some (.fz (nT g)), some (.fz (.lst gt (ls.map nT))), some (.ol (acc.map nT)), o4, o5] ∧ acc.Nodup ∧ (∀ a, a ∈ acc ↔ a ∈ (ls.take k).map (sideN g)) ∧ acc.length ≤ k) ⟨[], none, none, rfl, List.nodup_nil, fun a => by simp, Nat.le_refl _⟩ ?_ ?_
    · rintro k a e hk ⟨acc, o4, o5, rfl, hN, hM, hlen⟩
      obtain ⟨hk', ha⟩ := List.getElem?_eq_some_iff.mp hk
      refine ⟨_, rfl, ?_⟩
      have hlot : Lot g a := by rw [← ha]; exact hL _ (List.getElem_mem hk')
      have hs := side_ev (d := d + 1) hg hlot
      have hin : ∀ gg, T.isIn true (nT (sideN g a)) (.lst gg (acc.map nT)) = some (.bl (!acc.contains (sideN g a))) := fun gg => (inV_nat (sideN g a) acc).2
      have ht : (ls.take (k + 1)).map (sideN g) = (ls.take k).map (sideN g) ++ [sideN g a] := by
        rw [List.take_succ_eq_append_getElem hk', List.map_append, ha]
        rfl
      refine sat_hide (I := fun e => ∃ (acc : List Nat) (o4 o5 : Option Sl), e = [some (.oi cid_Book [] []), some (.fz (nT g)), some (.fz (.lst gt (ls.map nT))), some (.ol (acc.map nT)), o4, o5] ∧ acc.Nodup ∧ (∀ a, a ∈ acc ↔ a ∈ (ls.take (k + 1)).map (sideN g)) ∧ acc.length ≤ k + 1) (fun _ z => z) (fun J hJ => ?_)
      have hz : acc.length < sizeLine := szl (by omega)
      cases hc : acc.contains (sideN g a) with
      | true =>
        rw [hc] at hin
        simp [hs, hin]
        refine hJ _ ⟨acc, _, _, rfl, hN, fun b => ?_, by omega⟩
        rw [ht, List.mem_append, List.mem_singleton, hM]
        have hm := (hM _).mp (List.contains_iff_mem.mp hc)
        exact ⟨.inl, fun z => z.elim id fun y => by rw [y]; exact hm⟩
      | false =>
        rw [hc] at hin
        simp [hs, hin, hz]
        refine hJ _ ⟨acc ++ [sideN g a], _, _, by rw [List.map_append]; rfl, ?_, fun b => ?_, by simp; omega⟩
        · refine List.nodup_append.mpr ⟨hN, by simp, fun x hx y hy => ?_⟩
          rw [List.mem_singleton.mp hy]
          intro z
          subst z
          rw [List.contains_iff_mem.mpr hx] at hc
          cases hc
        · rw [ht, List.mem_append, List.mem_append, hM]
    · rintro e ⟨acc, o4, o5, rfl, hN, hM, hlen⟩
      have e1 : srt acc = bs g ls := by
        refine asc_unique (srt_asc hN) (bs_asc g ls) fun a => ?_
        rw [mem_srt, mem_bs, hM, List.take_length]
      have hso : ∀ gg, B.sorted [.lst gg (acc.map nT)] = some (.lst none ((bs g ls).map nT)) := fun gg => by rw [sorted_nats, e1]
      have hne : ¬ (Str.ofString "sides" = Str.ofString "many") := by decide +kernel
      simp [hso, hne]
  obtain ⟨r, h1, rfl⟩ := key
  exact h1
end Lw

set_option Elab.async false
set_option linter.all false
set_option maxRecDepth 100000
set_option maxHeartbeats 4000000
namespace Lw
open PySem L2 Py
theorem members_eq : f__law_members = LL.f_members := rfl
theorem and_one (a : Nat) : Builtin.bitAnd (a : Int) 1 = (((a.testBit 0).toNat : Nat) : Int) := by
  show ((Nat.land a 1 : Nat) : Int) = _
  have e : Nat.land a 1 = (a.testBit 0).toNat := by
    rw [show Nat.land a 1 = a &&& 1 from rfl, Nat.and_one_is_mod, Nat.testBit_zero]
    rcases Nat.mod_two_eq_zero_or_one a with z | z <;> simp [z]
  rw [e]
theorem mem_succ (n a : Nat) : mem (n + 1) a = mem n a ++ (if a.testBit n = true then [n] else []) := by
  unfold mem
  rw [List.range_succ, List.filter_append, List.filter_cons, List.filter_nil]
theorem mem_stop {a k : Nat} (h : a >>> k = 0) : ∀ n, mem (k + n) a = mem k a
  | 0 => rfl
  | n + 1 => by
    rw [show k + (n + 1) = k + n + 1 by omega, mem_succ, mem_stop h n]
    have : a.testBit (k + n) = false := by
      have := Nat.testBit_shiftRight (i := k) (j := n) a
      rw [h, Nat.zero_testBit] at this
      exact this.symm
    rw [this]
    simp
theorem shr_one (a : Nat) : T.shr (.int (a : Int)) (.int 1) = some (.int ((a >>> 1 : Nat) : Int)) := by
  kernel_rfl
theorem shr_nat (a k : Nat) : T.shr (.int (a : Int)) (.int (k : Int)) = some (.int ((a >>> k : Nat) : Int)) := by
  rw [shr_int (by omega)]
  have : (a : Int) / 2 ^ (k : Int).toNat = ((a >>> k : Nat) : Int) := by
    rw [Nat.shiftRight_eq_div_pow]
    simp
  rw [this]
theorem fmembers_ev (d a : Nat) (ha : a < 64) : f_members d [nT a] = .ok (.tup ((mem 6 a).map nT)) := by
  refine run_is ?_
  simp [ent_eq, S_members, lfit_ok]
  refine sat_while (fun n e => ∃ k, n = a >>> k ∧ k ≤ 6 ∧ e = [some (.fz (nT a)), some (.ol ((mem k a).map nT)), some (.fz (nT k)), some (.fz (nT n))]) ?_ fuel a _ (Nat.lt_of_lt_of_le ha (by decide)) ⟨0, rfl, by omega, rfl⟩
  rintro r e ⟨k, hr, hk, rfl⟩
  by_cases c : 0 < r
  · refine ⟨true, by simp [c], ?_⟩
    rw [if_pos rfl]
    have hk6 : k < 6 := by
      rcases Nat.lt_or_ge k 6 with z | z
      · exact z
      · have e6 : k = 6 := by omega
        subst e6
        rw [hr, Nat.shiftRight_eq_div_pow, Nat.div_eq_of_lt (by omega)] at c
        exact absurd c (Nat.lt_irrefl _)
    have hb := and_one r
    rw [hr, Nat.testBit_shiftRight, Nat.add_zero, ← hr] at hb
    have h1 := shr_one r
    have hm := mem_succ k a
    have hlt : r >>> 1 < r := by
      rw [Nat.shiftRight_eq_div_pow]
      omega
    have hr1 : r >>> 1 = a >>> (k + 1) := by rw [hr, ← Nat.shiftRight_add]
    generalize r >>> 1 = r1 at h1 hlt hr1
    have hz : (mem k a).length < sizeLine := szl (by
      have : (mem k a).length ≤ k := by
        unfold mem
        exact Nat.le_trans (List.length_filter_le _ _) (by simp)
      omega)
    cases ct : a.testBit k with
    | true =>
      rw [ct] at hb hm
      simp [hb, h1, hz]
      refine ⟨_, hlt, k + 1, hr1, by omega, ?_⟩
      rw [hm]
      simp
    | false =>
      rw [ct] at hb hm
      simp [hb, h1]
      refine ⟨_, hlt, k + 1, hr1, by omega, ?_⟩
      rw [hm]
      simp
  · refine ⟨false, by simp; omega, ?_⟩
    rw [if_neg Bool.false_ne_true]
    have h0 : a >>> k = 0 := by omega
    have h6 := mem_stop h0 (6 - k)
    rw [show k + (6 - k) = 6 by omega] at h6
    simp [h6]
def sz (a : Nat) : Nat := (mem 6 a).length
theorem size_ev (d a : Nat) (ha : a < 64) : f_size d [nT a] = .ok (nT (sz a)) := by
  have h := fmembers_ev (d + 1) a ha
  refine run_is ?_
  simp [ent_eq, S_size, h, sz]
theorem count_ev (d a : Nat) : f__law_count d [nT a] = .ok (nT (sz a)) := by
  have h := members_ev (d + 1) a 6 (by omega)
  have h' : f__law_members (d + 1) [nT a, .int 6] = .ok (.lst none ((mem 6 a).map nT)) := h
  refine run_is ?_
  simp [ent_eq, S__law_count, h', sz]
theorem has_ev (d a k : Nat) : f_has d [nT a, nT k] = .ok (.bl (a.testBit k)) := by
  have h1 := shr_nat a k
  have hb := and_one (a >>> k)
  rw [Nat.testBit_shiftRight, Nat.add_zero] at hb
  generalize a >>> k = r at h1 hb
  refine run_is ?_
  cases c : a.testBit k <;> rw [c] at hb <;> simp [ent_eq, S_has, h1, hb]
/-! ### the smallest side that holds -/
def abv (p : Nat → Bool) (l : List Nat) : Nat → Nat
  | 0 => 0
  | k + 1 => if p (l.getD k 0) = true ∧ (abv p l k = 0 ∨ sz (l.getD k 0) < sz (l.getD (abv p l k - 1) 0)) then k + 1 else abv p l k
theorem abv_succ (p : Nat → Bool) (l : List Nat) (k : Nat) : abv p l (k + 1) = if p (l.getD k 0) = true ∧ (abv p l k = 0 ∨ sz (l.getD k 0) < sz (l.getD (abv p l k - 1) 0)) then k + 1 else abv p l k := rfl
theorem abv_le (p : Nat → Bool) (l : List Nat) : ∀ k, abv p l k ≤ k
  | 0 => Nat.le_refl _
  | k + 1 => by
    have := abv_le p l k
    unfold abv
    split <;> omega
theorem abv_min (p : Nat → Bool) (l : List Nat) : ∀ k, k ≤ l.length → (abv p l k = 0 → ∀ j, j < k → p (l.getD j 0) = false) ∧ (abv p l k ≠ 0 → p (l.getD (abv p l k - 1) 0) = true ∧ ∀ j, j < k → p (l.getD j 0) = true → sz (l.getD (abv p l k - 1) 0) ≤ sz (l.getD j 0))
  | 0, _ => ⟨fun _ j hj => absurd hj (Nat.not_lt_zero _), fun h => absurd rfl h⟩
  | k + 1, hk => by
    obtain ⟨h1, h2⟩ := abv_min p l k (by omega)
    unfold abv
    split
    · rename_i c
      obtain ⟨c1, c2⟩ := c
      refine ⟨fun z => absurd z (by omega), fun _ => ?_⟩
      rw [Nat.add_sub_cancel]
      refine ⟨c1, fun j hj hp => ?_⟩
      rcases Nat.lt_or_eq_of_le (Nat.le_of_lt_succ hj) with z | z
      · rcases c2 with y | y
        · rw [h1 y j z] at hp
          cases hp
        · have := (h2 (fun w => by
            have := h1 w j z
            rw [hp] at this
            cases this)).2 j z hp
          omega
      · subst z
        exact Nat.le_refl _
    · rename_i c
      refine ⟨fun z j hj => ?_, fun z => ⟨(h2 z).1, fun j hj hp => ?_⟩⟩
      · rcases Nat.lt_or_eq_of_le (Nat.le_of_lt_succ hj) with y | y
        · exact h1 z j y
        · subst y
          cases q : p (l.getD j 0) with
          | false => rfl
          | true => exact absurd ⟨q, .inl z⟩ c
      · rcases Nat.lt_or_eq_of_le (Nat.le_of_lt_succ hj) with y | y
        · exact (h2 z).2 j y hp
        · subst y
          rcases Nat.lt_or_ge (sz (l.getD j 0)) (sz (l.getD (abv p l j - 1) 0)) with w | w
          · exact absurd ⟨hp, .inr w⟩ c
          · exact w
theorem abv_congr {p q : Nat → Bool} {l : List Nat} : ∀ {k}, (∀ j, j < k → p (l.getD j 0) = q (l.getD j 0)) → abv p l k = abv q l k
  | 0, _ => rfl
  | k + 1, h => by
    unfold abv
    rw [abv_congr (p := p) (q := q) fun j hj => h j (by omega), h k (by omega)]
def All64 (l : List Nat) : Prop := ∀ a ∈ l, a < 64
theorem All64.get {l : List Nat} (h : All64 l) {j : Nat} (hj : j < l.length) : l[j] < 64 := h _ (List.getElem_mem hj)
theorem getD_get {l : List Nat} {j : Nat} (hj : j < l.length) : l.getD j 0 = l[j] := by rw [List.getD_eq_getElem?_getD, List.getElem?_eq_getElem hj]; rfl
def pW (lot x : Nat) : Bool := !decide (x = lot) && decide (x &&& lot = lot)
theorem with_ev (d : Nat) (l : List Nat) (lot : Nat) (h : All64 l) (hl : Small l) : f_smallest_with d [.tup (l.map nT), nT lot] = .ok (nT (abv (pW lot) l l.length)) := by
  have hn : l.length ≤ 60 := hl
  have hr : rfit (l.length : Int) = true := rfit_ok (by omega) (by omega)
  refine run_is ?_
  simp [ent_eq, S_smallest_with, hr]
  refine sat_rngN (fun k e => ∃ o, e = [some (.fz (.tup (l.map nT))), some (.fz (nT lot)), some (.fz (nT (abv (pW lot) l k))), o]) 0 rfl ⟨none, rfl⟩ ?_ ?_
  · rintro k e hk ⟨o, rfl⟩
    refine ⟨_, rfl, ?_⟩
    have hk' : k < l.length := by simpa using hk
    have i1 := atI_map (g := nT) hk'
    have hb := bAnd l[k] lot
    have s1 := size_ev (d + 1) l[k] (h.get hk')
    have gk := getD_get hk'
    have ha := abv_le (pW lot) l k
    have hs := abv_succ (pW lot) l k
    rw [gk] at hs
    generalize abv (pW lot) l (k + 1) = f' at hs ⊢
    generalize abv (pW lot) l k = f at hs ha ⊢
    subst hs
    by_cases c1 : l[k] = lot
    · simp [i1, c1, pW]
    · by_cases c2 : l[k] &&& lot = lot
      · have c1' : ¬ ((l[k] : Nat) : Int) = (lot : Int) := by omega
        by_cases c3 : f = 0
        · rw [c3]
          simp [i1, c1, c1', hb, c2, pW]
        · have hf : f - 1 < l.length := by omega
          have i2 := atI_mapI (g := nT) (l := l) (z := ((f : Nat) : Int) - 1) (f - 1) (by omega) hf
          have s2 := size_ev (d + 1) l[f - 1] (h.get hf)
          rw [getD_get hf]
          generalize hx : l[f - 1] = x at i2 s2
          by_cases c4 : sz l[k] < sz x
          · simp [i1, c1, c1', hb, c2, c3, i2, s1, s2, c4, pW]
          · simp [i1, c1, c1', hb, c2, c3, i2, s1, s2, c4, pW]
      · have c1' : ¬ ((l[k] : Nat) : Int) = (lot : Int) := by omega
        have c2' : ¬ (((l[k] &&& lot : Nat)) : Int) = (lot : Int) := by omega
        simp [i1, c1, c1', hb, c2, c2', pW]
  · rintro e ⟨o, rfl⟩
    simp
theorem holding_ev (d : Nat) (l : List Nat) (k0 : Nat) (h : All64 l) (hl : Small l) : f_smallest_holding d [.tup (l.map nT), .tup (l.map nT), nT k0] = .ok (nT (abv (fun x => x.testBit k0) l l.length)) := by
  have hn : l.length ≤ 60 := hl
  have hr : rfit (l.length : Int) = true := rfit_ok (by omega) (by omega)
  refine run_is ?_
  simp [ent_eq, S_smallest_holding, hr]
  refine sat_rngN (fun k e => ∃ o, e = [some (.fz (.tup (l.map nT))), some (.fz (.tup (l.map nT))), some (.fz (nT k0)), some (.fz (nT (abv (fun x => x.testBit k0) l k))), o]) 0 rfl ⟨none, rfl⟩ ?_ ?_
  · rintro k e hk ⟨o, rfl⟩
    refine ⟨_, rfl, ?_⟩
    have hk' : k < l.length := by simpa using hk
    have i1 := atI_map (g := nT) hk'
    have hb := has_ev (d + 1) l[k] k0
    have s1 := size_ev (d + 1) l[k] (h.get hk')
    have gk := getD_get hk'
    have ha := abv_le (fun x => x.testBit k0) l k
    have hs := abv_succ (fun x => x.testBit k0) l k
    rw [gk] at hs
    generalize abv (fun x => x.testBit k0) l (k + 1) = f' at hs ⊢
    generalize abv (fun x => x.testBit k0) l k = f at hs ha ⊢
    subst hs
    cases c1 : l[k].testBit k0 with
    | false =>
      rw [c1] at hb
      simp [i1, hb]
    | true =>
      rw [c1] at hb
      by_cases c3 : f = 0
      · rw [c3]
        simp [i1, hb]
      · have hf : f - 1 < l.length := by omega
        have i2 := atI_mapI (g := nT) (l := l) (z := ((f : Nat) : Int) - 1) (f - 1) (by omega) hf
        have s2 := size_ev (d + 1) l[f - 1] (h.get hf)
        rw [getD_get hf]
        generalize hx : l[f - 1] = x at i2 s2
        by_cases c4 : sz l[k] < sz x
        · simp [i1, hb, c3, i2, s1, s2, c4]
        · simp [i1, hb, c3, i2, s1, s2, c4]
  · rintro e ⟨o, rfl⟩
    simp
/-- the law's own look -/
def subB (a x : Nat) : Bool := ((List.range 6).filter fun k => a.testBit k && !x.testBit k).length == 0
def pL (lot : Nat) (it : Bool) (x : Nat) : Bool := subB lot x && (it || !decide (x = lot))
theorem above_ev (d : Nat) (l : List Nat) (lot : Nat) (it : Bool) (gt : Option Tag) (hl : Small l) : f__law_above d [.lst gt (l.map nT), nT lot, .bl it] = .ok (nT (abv (pL lot it) l l.length)) := by
  have hn : l.length ≤ 60 := hl
  have hr : rfit (l.length : Int) = true := rfit_ok (by omega) (by omega)
  refine run_is ?_
  simp [ent_eq, S__law_above, hr]
  refine sat_rngN (fun k e => ∃ o1 o2, e = [some (.fz (.lst gt (l.map nT))), some (.fz (nT lot)), some (.fz (.bl it)), some (.fz (nT (abv (pL lot it) l k))), o1, o2, none]) 0 rfl ⟨none, none, rfl⟩ ?_ ?_
  · rintro k e hk ⟨o1, o2, rfl⟩
    refine ⟨_, rfl, ?_⟩
    have hk' : k < l.length := by simpa using hk
    have i1 := atI_map (g := nT) hk'
    have s1 := count_ev (d + 1) l[k]
    have gk := getD_get hk'
    have ha := abv_le (pL lot it) l k
    have r6 : rfit 6 = true := rfl
    have hc : ∀ o1 o2 o3, P.turnsC (S.tName 6) (P.and (P.tb (P.bin T.eq (P.call (f__law_bit (d + 1)) (P.cons (P.var d 1) (P.cons (P.var d 6) P.nil))) (P.c (.int 1)))) (P.tb (P.bin T.eq (P.call (f__law_bit (d + 1)) (P.cons (P.bin T.ix (P.var d 0) (P.var d 4)) (P.cons (P.var d 6) P.nil))) (P.c (.int 0))))) (P.var d 6)
        [some (.fz (.lst gt (l.map nT))), some (.fz (nT lot)), o1, o2, some (.fz (nT k)), o3, none] (rng 0 6) = .ok (((List.range 6).filter fun j => lot.testBit j && !l[k].testBit j).map nT) := fun o1 o2 o3 =>
      turnsC_map (g := fun (j : Nat) => T.int (0 + (j : Int))) (f := nT) (c := fun j => lot.testBit j && !l[k].testBit j) (List.range 6) (fun j hj => by
        have hj' := List.mem_range.mp hj
        refine ⟨_, rfl, ?_, fun _ => ?_⟩
        · have b1 := bit_ev (d + 1) lot j (by omega)
          have b2 := bit_ev (d + 1) l[k] j (by omega)
          cases c1 : lot.testBit j <;> cases c2 : l[k].testBit j <;> rw [c1] at b1 <;> rw [c2] at b2 <;> simp [bit_eq, b1, b2, i1]
        · simp)
    have hll : (rng 0 6).length = 6 := rfl
    have hsb : ((((List.range 6).filter fun j => lot.testBit j && !l[k].testBit j).length : Nat) : Int) = 0 ↔ subB lot l[k] = true := by
      unfold subB
      rw [beq_iff_eq]
      omega
    generalize hF : ((List.range 6).filter fun j => lot.testBit j && !l[k].testBit j) = fl at hc hsb
    have hs := abv_succ (pL lot it) l k
    rw [gk] at hs
    generalize abv (pL lot it) l (k + 1) = f' at hs ⊢
    generalize abv (pL lot it) l k = f at hs ha ⊢
    subst hs
    unfold pL
    have c1i : (((l[k] : Nat) : Int) = (lot : Int)) ↔ l[k] = lot := by omega
    cases c1 : subB lot l[k] with
    | false =>
      have hsb' : ¬ fl.length = 0 := fun z => by
        rw [hsb.mp (by omega)] at c1
        cases c1
      simp [r6, hll, lfit_ok, hc, hsb', -List.map_map]
    | true =>
      have hsb' : fl.length = 0 := by have := hsb.mpr c1; omega
      have hfl : fl = [] := List.length_eq_zero_iff.mp hsb'
      subst hfl
      by_cases c2 : it = true ∨ ¬ l[k] = lot
      · by_cases c3 : f = 0
        · subst c3
          rcases c2 with c2 | c2
          · subst c2
            simp [r6, hll, lfit_ok, hc]
          · cases it <;> simp [r6, hll, lfit_ok, hc, i1, c1i, c2]
        · have hf : f - 1 < l.length := by omega
          have i2 := atI_mapI (g := nT) (l := l) (z := ((f : Nat) : Int) - 1) (f - 1) (by omega) hf
          have s2 := count_ev (d + 1) l[f - 1]
          rw [getD_get hf]
          generalize hx : l[f - 1] = x at i2 s2
          by_cases c4 : sz l[k] < sz x
          · rcases c2 with c2 | c2
            · subst c2
              simp [r6, hll, lfit_ok, hc, i1, i2, s1, s2, c3, c4]
            · cases it <;> simp [r6, hll, lfit_ok, hc, i1, c1i, c2, i2, s1, s2, c3, c4]
          · rcases c2 with c2 | c2
            · subst c2
              simp [r6, hll, lfit_ok, hc, i1, i2, s1, s2, c3, c4]
            · cases it <;> simp [r6, hll, lfit_ok, hc, i1, c1i, c2, i2, s1, s2, c3, c4]
      · cases it with
        | true => exact absurd (.inl rfl) c2
        | false =>
          have c2' : l[k] = lot := Classical.not_not.mp fun z => c2 (.inr z)
          simp [r6, hll, lfit_ok, hc, i1, c2']
  · rintro e ⟨o, o2, rfl⟩
    simp
end Lw

set_option Elab.async false
set_option linter.all false
set_option maxRecDepth 100000
set_option maxHeartbeats 4000000
namespace Lw
open PySem L2 Py
/-! ### sides that hold others -/
def Sub (a c : Nat) : Prop := ∀ k, a.testBit k = true → c.testBit k = true
theorem Sub.refl (a : Nat) : Sub a a := fun _ h => h
theorem Sub.trans {a b c : Nat} (h : Sub a b) (h2 : Sub b c) : Sub a c := fun k z => h2 k (h k z)
theorem high {a k n : Nat} (h : a < 2 ^ n) (hk : n ≤ k) : a.testBit k = false := Nat.testBit_lt_two_pow (Nat.lt_of_lt_of_le h (Nat.pow_le_pow_right (by omega) hk))
theorem subB_iff {a c : Nat} (ha : a < 64) : subB a c = true ↔ Sub a c := by
  unfold subB
  rw [beq_iff_eq, List.length_eq_zero_iff, List.filter_eq_nil_iff]
  constructor
  · intro h k hk
    rcases Nat.lt_or_ge k 6 with z | z
    · have := h k (List.mem_range.mpr z)
      rw [hk] at this
      cases q : c.testBit k with
      | true => rfl
      | false => rw [q] at this; exact absurd rfl this
    · rw [high (n := 6) ha z] at hk
      cases hk
  · intro h k _ z
    rw [Bool.and_eq_true, Bool.not_eq_true'] at z
    rw [h k z.1] at z
    cases z.2
theorem and_iff {a c : Nat} : c &&& a = a ↔ Sub a c := by
  constructor
  · intro h k hk
    rw [← h, Nat.testBit_and, Bool.and_eq_true] at hk
    exact hk.1
  · intro h
    refine Nat.eq_of_testBit_eq fun k => ?_
    rw [Nat.testBit_and]
    cases q : a.testBit k with
    | false => rw [Bool.and_false]
    | true => rw [h k q]; rfl
theorem Sub.anti {a c : Nat} (h : Sub a c) (h2 : Sub c a) : a = c := Nat.eq_of_testBit_eq fun k => by
  cases q : a.testBit k with
  | true => rw [h k q]
  | false =>
    cases w : c.testBit k with
    | false => rfl
    | true => rw [h2 k w] at q; cases q
def chk64 : Bool := (List.range 64).all fun a => (List.range 64).all fun c => !subB a c || (decide (a = c) || decide (sz a < sz c))
theorem chk64_ok : chk64 = true := by decide +kernel
theorem sub_sz {a c : Nat} (ha : a < 64) (hc : c < 64) (h : Sub a c) : a = c ∨ sz a < sz c := by
  have := List.all_eq_true.mp (List.all_eq_true.mp chk64_ok a (List.mem_range.mpr ha)) c (List.mem_range.mpr hc)
  rw [(subB_iff ha).mpr h] at this
  simpa using this
theorem sz_le (a : Nat) : sz a ≤ 6 := by
  unfold sz mem
  exact Nat.le_trans (List.length_filter_le _ _) (by simp)
theorem nest_of {g x y j : Nat} (hx : x < 2 ^ g) (hy : y < 2 ^ g) (h : crN g x y = false) (hj : j < g) (jx : x.testBit j = true) (jy : y.testBit j = true) (ox : x.testBit 0 = false) (oy : y.testBit 0 = false) : Sub x y ∨ Sub y x := by
  unfold crN at h
  have a1 : (List.range g).any (fun k => x.testBit k && y.testBit k) = true := List.any_eq_true.mpr ⟨j, List.mem_range.mpr hj, by rw [jx, jy]; rfl⟩
  have a4 : (List.range g).any (fun k => !x.testBit k && !y.testBit k) = true := List.any_eq_true.mpr ⟨0, List.mem_range.mpr (by omega), by rw [ox, oy]; rfl⟩
  rw [a1, a4, Bool.true_and, Bool.and_true] at h
  have key : ∀ u w : Nat, u < 2 ^ g → (List.range g).any (fun k => u.testBit k && !w.testBit k) = false → Sub u w := fun u w hu z k hk => by
    rcases Nat.lt_or_ge k g with y | y
    · cases q : w.testBit k with
      | true => rfl
      | false =>
        have : (List.range g).any (fun k => u.testBit k && !w.testBit k) = true := List.any_eq_true.mpr ⟨k, List.mem_range.mpr y, by rw [hk, q]; rfl⟩
        rw [z] at this
        cases this
    · rw [high hu y] at hk
      cases hk
  rcases Bool.and_eq_false_iff.mp h with z | z
  · exact .inl (key x y hx z)
  · refine .inr (key y x hy ?_)
    rw [← z]
    congr 1
    funext k
    rw [Bool.and_comm]
structure Nst (g : Nat) (b : List Nat) : Prop where
  hg : G26 g
  asc : b.Pairwise (· < ·)
  lots : Lots g b
  zero : ∀ a ∈ b, a.testBit 0 = false
  noX : prs g b = []
section
variable {g : Nat} {b : List Nat} (N : Nst g b)
include N
theorem Nst.all : All64 b := fun a ha => by
  have := N.lots a ha
  have := pow_ge N.hg
  unfold Lot at *
  omega
theorem Nst.lt {a : Nat} (h : a ∈ b) : a < 2 ^ g := by
  have := N.lots a h
  unfold Lot at this
  omega
theorem Nst.nest {x y j : Nat} (hx : x ∈ b) (hy : y ∈ b) (jx : x.testBit j = true) (jy : y.testBit j = true) : Sub x y ∨ Sub y x := by
  have hj : j < g := by
    rcases Nat.lt_or_ge j g with z | z
    · exact z
    · rw [high (N.lt hx) z] at jx
      cases jx
  have no : ∀ u w, u ∈ b → w ∈ b → u < w → crN g u w = false := fun u w hu hw h => by
    cases q : crN g u w with
    | false => rfl
    | true =>
      have := (mem_prs (g := g) N.asc).mpr ⟨hu, hw, h, q⟩
      rw [N.noX] at this
      cases this
  rcases Nat.lt_trichotomy x y with z | z | z
  · exact nest_of (N.lt hx) (N.lt hy) (no x y hx hy z) hj jx jy (N.zero x hx) (N.zero y hy)
  · subst z; exact .inl (Sub.refl _)
  · exact (nest_of (N.lt hy) (N.lt hx) (no y x hy hx z) hj jy jx (N.zero y hy) (N.zero x hx)).symm
theorem Nst.bit {x : Nat} (hx : x ∈ b) : ∃ j, x.testBit j = true := by
  have := (N.lots x hx).1
  exact Nat.exists_testBit_of_ne_zero (by omega)
end
/-- the side of a node -/
def Sd (b : List Nat) (v : Nat) : Nat := b.getD (v - 1) 0
theorem Sd_mem {b : List Nat} {v : Nat} (h0 : v ≠ 0) (h : v ≤ b.length) : Sd b v ∈ b := by
  unfold Sd
  rw [getD_get (show v - 1 < b.length by omega)]
  exact List.getElem_mem _
theorem Sd_inj {b : List Nat} (h : b.Pairwise (· < ·)) {v u : Nat} (v0 : v ≠ 0) (hv : v ≤ b.length) (u0 : u ≠ 0) (hu : u ≤ b.length) (e : Sd b v = Sd b u) : v = u := by
  have k : ∀ i j, i < b.length → j < b.length → i < j → b.getD i 0 < b.getD j 0 := fun i j hi hj hij => by
    rw [getD_get hi, getD_get hj]
    exact List.pairwise_iff_getElem.mp h i j hi hj hij
  unfold Sd at e
  rcases Nat.lt_trichotomy (v - 1) (u - 1) with z | z | z
  · have := k _ _ (by omega) (by omega) z
    omega
  · omega
  · have := k _ _ (by omega) (by omega) z
    omega
def par (b : List Nat) (v : Nat) : Nat := abv (pW (Sd b v)) b b.length
theorem par_le (b : List Nat) (v : Nat) : par b v ≤ b.length := abv_le _ _ _
theorem pW_iff {lot x : Nat} : pW lot x = true ↔ x ≠ lot ∧ Sub lot x := by
  unfold pW
  rw [Bool.and_eq_true, decide_eq_true_iff, and_iff]
  simp
/-- what the smallest is -/
theorem abv_of {p : Nat → Bool} {b : List Nat} : (abv p b b.length ≠ 0 → p (Sd b (abv p b b.length)) = true) ∧ ∀ u, u ≠ 0 → u ≤ b.length → p (Sd b u) = true → abv p b b.length ≠ 0 ∧ sz (Sd b (abv p b b.length)) ≤ sz (Sd b u) := by
  obtain ⟨h1, h2⟩ := abv_min p b b.length (Nat.le_refl _)
  refine ⟨fun z => (h2 z).1, fun u u0 hu hp => ?_⟩
  have z : abv p b b.length ≠ 0 := fun w => by
    have := h1 w (u - 1) (by omega)
    unfold Sd at hp
    rw [hp] at this
    cases this
  exact ⟨z, (h2 z).2 (u - 1) (by omega) hp⟩
def chn (b : List Nat) : Nat → Nat → List Nat
  | 0, _ => []
  | n + 1, v => if v = 0 then [] else v :: chn b n (par b v)
theorem chn_zero (b : List Nat) : ∀ n, chn b n 0 = []
  | 0 => rfl
  | n + 1 => by unfold chn; rw [if_pos rfl]
theorem chn_cons {b : List Nat} {n v : Nat} (h : v ≠ 0) : chn b (n + 1) v = v :: chn b n (par b v) := by
  show (if v = 0 then [] else _) = _
  rw [if_neg h]
section
variable {g : Nat} {b : List Nat} (N : Nst g b)
include N
theorem Nst.par_gt {v : Nat} (v0 : v ≠ 0) (hv : v ≤ b.length) (h : par b v ≠ 0) : Sub (Sd b v) (Sd b (par b v)) ∧ sz (Sd b v) < sz (Sd b (par b v)) := by
  obtain ⟨h1, h2⟩ := pW_iff.mp (abv_of (p := pW (Sd b v)) (b := b).1 h)
  refine ⟨h2, ?_⟩
  rcases sub_sz (N.all _ (Sd_mem v0 hv)) (N.all _ (Sd_mem h (par_le b v))) h2 with z | z
  · exact absurd z.symm h1
  · exact z
theorem Nst.mem_chn {u : Nat} : ∀ {n v : Nat}, v ≤ b.length → (v ≠ 0 → 7 ≤ n + sz (Sd b v)) → (u ∈ chn b n v ↔ v ≠ 0 ∧ u ≠ 0 ∧ u ≤ b.length ∧ Sub (Sd b v) (Sd b u))
  | 0, v, hv, hn => by
    constructor
    · intro h; cases h
    · rintro ⟨h, _⟩
      have := hn h
      have := sz_le (Sd b v)
      omega
  | n + 1, v, hv, hn => by
    by_cases v0 : v = 0
    · subst v0
      rw [chn_zero]
      exact ⟨fun h => (by cases h), fun h => absurd rfl h.1⟩
    · have ih := Nst.mem_chn (u := u) (n := n) (v := par b v) (par_le b v) (fun h => by
        have := (N.par_gt v0 hv h).2
        have := hn v0
        omega)
      rw [chn_cons v0, List.mem_cons, ih]
      constructor
      · rintro (rfl | ⟨h1, h2, h3, h4⟩)
        · exact ⟨v0, v0, hv, Sub.refl _⟩
        · exact ⟨v0, h2, h3, (N.par_gt v0 hv h1).1.trans h4⟩
      · rintro ⟨_, h2, h3, h4⟩
        by_cases e : u = v
        · exact .inl e
        · have ne : Sd b u ≠ Sd b v := fun z => e (Sd_inj N.asc h2 h3 v0 hv z)
          obtain ⟨p0, ps⟩ := (abv_of (p := pW (Sd b v)) (b := b)).2 u h2 h3 (pW_iff.mpr ⟨ne, h4⟩)
          refine .inr ⟨p0, h2, h3, ?_⟩
          have pm := Sd_mem p0 (par_le b v)
          have um := Sd_mem h2 h3
          obtain ⟨j, hj⟩ := N.bit (Sd_mem v0 hv)
          rcases N.nest pm um ((N.par_gt v0 hv p0).1 j hj) (h4 j hj) with z | z
          · exact z
          · rcases sub_sz (N.all _ um) (N.all _ pm) z with y | y
            · rw [show Sd b (par b v) = Sd b u from y.symm]
              exact Sub.refl _
            · have : sz (Sd b (par b v)) ≤ sz (Sd b u) := ps
              omega
theorem Nst.chn_nodup : ∀ {n v : Nat}, v ≤ b.length → (v ≠ 0 → 7 ≤ n + sz (Sd b v)) → (chn b n v).Nodup
  | 0, v, hv, hn => List.nodup_nil
  | n + 1, v, hv, hn => by
    by_cases v0 : v = 0
    · subst v0
      rw [chn_zero]
      exact List.nodup_nil
    · have hb : par b v ≠ 0 → 7 ≤ n + sz (Sd b (par b v)) := fun h => by
        have := (N.par_gt v0 hv h).2
        have := hn v0
        omega
      rw [chn_cons v0]
      refine List.nodup_cons.mpr ⟨fun h => ?_, Nst.chn_nodup (par_le b v) hb⟩
      obtain ⟨h1, h2, h3, h4⟩ := (N.mem_chn (par_le b v) hb).mp h
      obtain ⟨k1, k2⟩ := N.par_gt v0 hv h1
      rw [Sub.anti k1 h4] at k2
      omega
/-- nodes of gates -/
theorem Nst.gate {k u : Nat} (u0 : u ≠ 0) (hu : u ≤ b.length) : u ∈ chn b 12 (abv (fun x => x.testBit k) b b.length) ↔ (Sd b u).testBit k = true := by
  obtain ⟨h1, h2⟩ := abv_of (p := fun x => x.testBit k) (b := b)
  rw [N.mem_chn (abv_le _ _ _) (fun _ => by omega)]
  constructor
  · rintro ⟨k1, _, _, k4⟩
    exact k4 k (h1 k1)
  · intro h
    obtain ⟨p0, ps⟩ := h2 u u0 hu h
    refine ⟨p0, u0, hu, ?_⟩
    have pm := Sd_mem p0 (abv_le (fun x => x.testBit k) b b.length)
    have um := Sd_mem u0 hu
    rcases N.nest pm um (h1 p0) h with z | z
    · exact z
    · rcases sub_sz (N.all _ um) (N.all _ pm) z with y | y
      · rw [← y]
        exact Sub.refl _
      · omega
end
end Lw

set_option Elab.async false
set_option linter.all false
set_option maxRecDepth 100000
set_option maxHeartbeats 4000000
namespace Lw
open PySem L2 Py
/-! ### the tree of a book -/
def prT (b : List Nat) : List T := .non :: b.map fun a => nT (abv (pW a) b b.length)
def ndN (g : Nat) (b : List Nat) : List Nat := (List.range g).map fun k => abv (fun x => x.testBit k) b b.length
def trT (g : Nat) (b : List Nat) : T := .ins none cid_Tree ["book", "parents", "gate_nodes"] [bkT g b, .tup (prT b), .tup ((ndN g b).map nT)]
theorem sne1 : ¬ (Str.ofString "parents" = Str.ofString "book") := by decide +kernel
theorem sne2 : ¬ (Str.ofString "gate_nodes" = Str.ofString "book") := by decide +kernel
theorem sne3 : ¬ (Str.ofString "gate_nodes" = Str.ofString "parents") := by decide +kernel
@[simp] theorem tr_book (g : Nat) (b : List Nat) : T.fld [cid_Tree] "book" (trT g b) = some (bkT g b) := nrfl rfl
@[simp] theorem tr_parents (g : Nat) (b : List Nat) : T.fld [cid_Tree] "parents" (trT g b) = some (.tup (prT b)) := nrfl rfl
@[simp] theorem tr_nodes (g : Nat) (b : List Nat) : T.fld [cid_Tree] "gate_nodes" (trT g b) = some (.tup ((ndN g b).map nT)) := nrfl rfl
theorem prT_len (b : List Nat) : (prT b).length = b.length + 1 := by simp [prT]
theorem prT_at {b : List Nat} {v : Nat} (v0 : v ≠ 0) (hv : v ≤ b.length) : atI (prT b) (v : Int) = some (nT (par b v)) := by
  rw [Py.atI_nat (by rw [prT_len]; omega)]
  obtain ⟨n, rfl⟩ : ∃ n, v = n + 1 := ⟨v - 1, by omega⟩
  have hn : n < b.length := by omega
  have e : Sd b (n + 1) = b[n] := by unfold Sd; rw [Nat.add_sub_cancel, getD_get hn]
  simp [prT, par, e, hn]
theorem frs_prT (b : List Nat) : T.frs (prT b) = true := by
  simp [prT]
  exact frs_map (fun _ => by simp) _
theorem line_ev (d : Nat) (b : List Nat) (v : Nat) (gt : Option Tag) (hv : v ≤ b.length) : f__law_line d [.lst gt (prT b), nT v] = .ok (.lst none ((chn b 12 v).map nT)) := by
  have rf : rfit 12 = true := rfl
  refine run_is ?_
  simp [ent_eq, S__law_line, rf, lfit_ok]
  refine sat_rngN (fun k e => ∃ (acc : List Nat) (at_ : Nat) (o : Option Sl), e = [some (.fz (.lst gt (prT b))), some (.fz (nT v)), some (.ol (acc.map nT)), some (.fz (nT at_)), o] ∧ at_ ≤ b.length ∧ acc ++ chn b (12 - k) at_ = chn b 12 v ∧ acc.length ≤ k) 0 rfl ⟨[], v, none, rfl, hv, rfl, Nat.le_refl _⟩ ?_ ?_
  · rintro k e hk ⟨acc, at_, o, rfl, hat, hacc, hlen⟩
    refine ⟨_, rfl, ?_⟩
    have hk12 : k < 12 := by simpa using hk
    by_cases c : at_ = 0
    · subst c
      rw [chn_zero, List.append_nil] at hacc
      simp [hacc]
    · have i1 := prT_at c hat
      have hz : acc.length < sizeLine := szl (by omega)
      rw [show 12 - k = (12 - (k + 1)) + 1 by omega, chn_cons c] at hacc
      simp [c, i1, hz]
      refine ⟨acc ++ [at_], par b at_, ⟨by rw [List.map_append]; rfl, rfl⟩, par_le b at_, ?_, by simp; omega⟩
      rw [List.append_assoc, show 11 - k = 12 - (k + 1) by omega]
      exact hacc
  · rintro e ⟨acc, at_, o, rfl, hat, hacc, hlen⟩
    have e0 : chn b (12 - (Int.toNat 12)) at_ = [] := rfl
    have hacc' : acc = chn b 12 v := by
      rw [← hacc]
      exact (List.append_nil acc).symm
    simp [hacc']
theorem nabove_ev {g : Nat} {b : List Nat} (N : Nst g b) (d : Nat) (v : Nat) (hv : v ≤ b.length) : f_nodes_above d [trT g b, nT v] = .ok (.lst none ((chn b 12 v).map nT)) := by
  refine run_is ?_
  simp [ent_eq, S_nodes_above, lfit_ok]
  refine sat_while (fun n e => ∃ (acc : List Nat) (at_ : Nat), e = [some (.fz (trT g b)), some (.fz (nT v)), some (.ol (acc.map nT)), some (.fz (nT at_))] ∧ at_ ≤ b.length ∧ acc ++ chn b n at_ = chn b 12 v ∧ acc.length + n ≤ 12 ∧ (at_ ≠ 0 → 7 ≤ n + sz (Sd b at_))) ?_ fuel 12 _ (by decide) ⟨[], v, rfl, hv, rfl, Nat.le_refl _, fun _ => by omega⟩
  rintro n e ⟨acc, at_, rfl, hat, hacc, hlen, hn⟩
  by_cases c : at_ = 0
  · refine ⟨false, by simp [c], ?_⟩
    rw [if_neg Bool.false_ne_true]
    subst c
    rw [chn_zero, List.append_nil] at hacc
    simp [hacc]
  · refine ⟨true, by simp [c], ?_⟩
    rw [if_pos rfl]
    have i1 := prT_at c hat
    have hz : acc.length < sizeLine := szl (by omega)
    have h7 := hn c
    have h6 := sz_le (Sd b at_)
    obtain ⟨m, rfl⟩ : ∃ m, n = m + 1 := ⟨n - 1, by omega⟩
    rw [chn_cons c] at hacc
    simp [c, i1, hz]
    refine ⟨m, by omega, acc ++ [at_], par b at_, ⟨by rw [List.map_append]; rfl, rfl⟩, par_le b at_, ?_, by simp; omega, fun h => ?_⟩
    · rw [List.append_assoc]
      exact hacc
    · have := (N.par_gt c hat h).2
      omega
/-! ### ties -/
def tsN (b : List Nat) (v u : Nat) : List Nat := (chn b 12 v).filter (fun k => !(chn b 12 u).contains k) ++ (chn b 12 u).filter (fun k => !(chn b 12 v).contains k)
def dueN (b : List Nat) (v u : Nat) : List Nat := (List.range (b.length + 1)).filter fun k => !((chn b 12 v).contains k == (chn b 12 u).contains k)
theorem chn_len (b : List Nat) : ∀ n v, (chn b n v).length ≤ n
  | 0, _ => Nat.le_refl _
  | n + 1, v => by
    have := chn_len b n (par b v)
    unfold chn
    split
    · simp
    · simp; omega
theorem ties_eq {g : Nat} {b : List Nat} (N : Nst g b) {v u : Nat} (hv : v ≤ b.length) (hu : u ≤ b.length) : srt (tsN b v u) = dueN b v u := by
  have nd : ∀ v, v ≤ b.length → (chn b 12 v).Nodup := fun v hv => N.chn_nodup hv fun _ => by omega
  have le : ∀ v, v ≤ b.length → ∀ k ∈ chn b 12 v, k ≤ b.length := fun v hv k hk => ((N.mem_chn hv fun _ => by omega).mp hk).2.2.1
  refine asc_unique (srt_asc ?_) (List.pairwise_lt_range.filter _) fun a => ?_
  · refine List.nodup_append.mpr ⟨(nd v hv).filter _, (nd u hu).filter _, fun x hx y hy e => ?_⟩
    subst e
    obtain ⟨h1, h2⟩ := List.mem_filter.mp hx
    obtain ⟨k1, k2⟩ := List.mem_filter.mp hy
    rw [List.contains_iff_mem.mpr k1] at h2
    cases h2
  · rw [mem_srt]
    unfold tsN dueN
    rw [List.mem_append, List.mem_filter, List.mem_filter, List.mem_filter, List.mem_range]
    have l1 := le v hv a
    have l2 := le u hu a
    cases c1 : (chn b 12 v).contains a with
    | false =>
      have n1 : ¬ a ∈ chn b 12 v := fun z => by rw [List.contains_iff_mem.mpr z] at c1; cases c1
      cases c2 : (chn b 12 u).contains a with
      | false =>
        have n2 : ¬ a ∈ chn b 12 u := fun z => by rw [List.contains_iff_mem.mpr z] at c2; cases c2
        simp [n1, n2]
      | true =>
        have n2 := List.contains_iff_mem.mp c2
        have := l2 n2
        simp [n1, n2]
        omega
    | true =>
      have n1 := List.contains_iff_mem.mp c1
      have := l1 n1
      cases c2 : (chn b 12 u).contains a with
      | false =>
        have n2 : ¬ a ∈ chn b 12 u := fun z => by rw [List.contains_iff_mem.mpr z] at c2; cases c2
        simp [n1, n2]
        omega
      | true =>
        have n2 := List.contains_iff_mem.mp c2
        simp [n1, n2]
theorem ties_ev {g : Nat} {b : List Nat} (N : Nst g b) (d : Nat) {v u : Nat} (hv : v ≤ b.length) (hu : u ≤ b.length) : f_ties_between d [trT g b, nT v, nT u] = .ok (.tup ((dueN b v u).map nT)) := by
  have h1 := nabove_ev N (d + 1) v hv
  have h2 := nabove_ev N (d + 1) u hu
  have e := ties_eq N hv hu
  have ll1 := chn_len b 12 v
  have ll2 := chn_len b 12 u
  unfold tsN at e
  generalize chn b 12 v = l at h1 e ll1
  generalize chn b 12 u = r at h2 e ll2
  have c1 : ∀ o, P.turnsC (S.tName 6) (P.tb (P.bin (T.isIn true) (P.var d 6) (P.var d 4))) (P.var d 6) [some (.fz (trT g b)), some (.fz (nT v)), some (.fz (nT u)), some (.fz (.lst none (l.map nT))), some (.fz (.lst none (r.map nT))), o, none] (l.map nT) = .ok ((l.filter fun k => !r.contains k).map nT) := fun o => by
    exact turnsC_map (g := nT) (f := nT) (c := fun k => !r.contains k) l (fun k _ => ⟨_, rfl, by
      have := (inV_nat k r).2
      simp [this], fun _ => by simp⟩)
  have c2 : ∀ o, P.turnsC (S.tName 6) (P.tb (P.bin (T.isIn true) (P.var d 6) (P.var d 3))) (P.var d 6) [some (.fz (trT g b)), some (.fz (nT v)), some (.fz (nT u)), some (.fz (.lst none (l.map nT))), some (.fz (.lst none (r.map nT))), o, none] (r.map nT) = .ok ((r.filter fun k => !l.contains k).map nT) := fun o => by
    exact turnsC_map (g := nT) (f := nT) (c := fun k => !l.contains k) r (fun k _ => ⟨_, rfl, by
      have := (inV_nat k l).2
      simp [this], fun _ => by simp⟩)
  have f1 : lfit l.length = true := lfit_ok (by omega)
  have f2 : lfit r.length = true := lfit_ok (by omega)
  have k1 : (l.filter fun k => !r.contains k).length ≤ l.length := List.length_filter_le _ _
  have k2 : (r.filter fun k => !l.contains k).length ≤ r.length := List.length_filter_le _ _
  generalize hA : (l.filter fun k => !r.contains k) = A at e c1 k1
  generalize hB : (r.filter fun k => !l.contains k) = B at e c2 k2
  have ad : T.add (.lst none (A.map nT)) (.lst none (B.map nT)) = some (.lst none ((A ++ B).map nT)) := by
    rw [addL (lfit_ok (by simp; omega)), List.map_append]
  have so := sorted_nats (A ++ B) none
  rw [e] at so
  generalize A ++ B = ab at ad so
  refine run_is ?_
  simp [ent_eq, S_ties_between, h1, h2, f1, f2, c1, c2, ad, so]
theorem areties_ev {g : Nat} {b : List Nat} (N : Nst g b) (hl : b.length ≤ 50) (d : Nat) : f__law_are_ties d [trT g b, .lst none (prT b), nT (b.length + 1)] = .ok (.bl true) := by
  have hr : rfit ((b.length + 1 : Nat) : Int) = true := rfit_ok (by omega) (by omega)
  have hlr : lfit (rng 0 (b.length + 1)).length = true := lfit_ok (by rw [rng_len]; omega)
  generalize hm : b.length + 1 = m at hr hlr
  refine run_is ?_
  simp [ent_eq, S__law_are_ties, hr]
  refine sat_rngN (fun k e => ∃ o3 o4 o5 o6 o7 o8, e = [some (.fz (trT g b)), some (.fz (.lst none (prT b))), some (.fz (nT m)), o3, o4, o5, o6, o7, o8, none]) 0 rfl ⟨none, none, none, none, none, none, rfl⟩ ?_ ?_
  · rintro v e hv ⟨o3, o4, o5, o6, o7, o8, rfl⟩
    refine ⟨_, rfl, ?_⟩
    have hv' : v ≤ b.length := by have : v < m := by simpa using hv
                                  omega
    simp [hr]
    refine sat_rngN (fun k e => ∃ o4 o5 o6 o7 o8, e = [some (.fz (trT g b)), some (.fz (.lst none (prT b))), some (.fz (nT m)), some (.fz (nT v)), o4, o5, o6, o7, o8, none]) 0 rfl ⟨o4, o5, o6, o7, o8, by simp⟩ ?_ ?_
    · rintro u e hu ⟨o4, o5, o6, o7, o8, rfl⟩
      refine ⟨_, rfl, ?_⟩
      have hu' : u ≤ b.length := by have : u < m := by simpa using hu
                                    omega
      have l1 := line_ev (d + 1) b v none hv'
      have l2 := line_ev (d + 1) b u none hu'
      have tt := ties_ev N (d + 1) hv' hu'
      have ed : dueN b v u = (List.range m).filter fun k => !((chn b 12 v).contains k == (chn b 12 u).contains k) := by rw [← hm]; rfl
      generalize dueN b v u = du at tt ed
      generalize chn b 12 v = l at l1 ed
      generalize chn b 12 u = r at l2 ed
      have hc : ∀ o7 o8, P.turnsC (S.tName 9) (P.tb (P.bin T.ne (P.bin (T.isIn false) (P.var d 9) (P.var d 5)) (P.bin (T.isIn false) (P.var d 9) (P.var d 6)))) (P.var d 9) [some (.fz (trT g b)), some (.fz (.lst none (prT b))), some (.fz (nT m)), some (.fz (nT v)), some (.fz (nT u)), some (.fz (.lst none (l.map nT))), some (.fz (.lst none (r.map nT))), o7, o8, none] (rng 0 m) = .ok (du.map nT) := fun o7 o8 => by
        rw [ed]
        refine turnsC_map (g := fun (k : Nat) => T.int (0 + (k : Int))) (f := nT) (c := fun k => !(l.contains k == r.contains k)) (List.range m) (fun k _ => ⟨_, rfl, ?_, fun _ => by simp⟩)
        have n1 := (inV_nat k l).1
        have n2 := (inV_nat k r).1
        have nb : ∀ x y : Bool, T.ne (.bl x) (.bl y) = some (.bl (!(x == y))) := fun x y => by cases x <;> cases y <;> rfl
        simp [n1, n2, nb]
      have it : kitB "tuple" "tuple" = some true := kt5
      have nn : T.ne (.lst none (du.map nT)) (.lst none (du.map nT)) = some (.bl false) := by
        show (match (T.pds (du.map nT)).map PyData.list, (T.pds (du.map nT)).map PyData.list with
          | some d, some e => if SeqAt.shaped d && SeqAt.shaped e then some (T.bl (!PyData.eqv d e)) else none
          | _, _ => none) = _
        rw [pds_nat]
        show (if (SeqAt.shaped (.list _) && SeqAt.shaped (.list _)) = true then some (T.bl (!PyData.eqvAll _ _)) else none) = _
        rw [shaped_nat, eqv_nat, beq_self_eq_true]
        rfl
      simp [l1, l2, hr, hlr, hc, tt, it, nn]
    · rintro e ⟨o4, o5, o6, o7, o8, rfl⟩
      exact ⟨_, _, _, _, _, _, rfl⟩
  · rintro e ⟨o3, o4, o5, o6, o7, o8, rfl⟩
    simp
end Lw

set_option Elab.async false
set_option linter.all false
set_option maxRecDepth 100000
set_option maxHeartbeats 4000000
namespace Lw
open PySem L2 Py
theorem nested_of {d g : Nat} {b : List Nat} (hg : G26 g) (hS : Small b) (hL : Lots g b) (h : prs g b = []) : f_check_nested d [bkT g b] = .ok .non := by
  have h1 := cpairs_ev (d + 1) g b hg hS hL
  rw [h] at h1
  refine run_is ?_
  simp [ent_eq, S_check_nested, h1]
theorem crossing_of {d g : Nat} {b : List Nat} (hg : G26 g) (hS : Small b) (hL : Lots g b) {t : Nat × Nat} {ts : List (Nat × Nat)} (h : prs g b = t :: ts) : f_check_nested d [bkT g b] = .er ⟨cid_TwoCross, ["pair"], [pT t]⟩ := by
  have h1 := cpairs_ev (d + 1) g b hg hS hL
  rw [h] at h1
  have i0 : atI (pT t :: ts.map pT) 0 = some (pT t) := Py.atI_nat (k := 0) (by simp)
  have n1 : (0 : Int) < (ts.length : Int) + 1 := by omega
  simp [f_check_nested, run_eq, ent_eq, S_check_nested, h1, i0, n1]
theorem refused_ev {d g : Nat} {b : List Nat} (hg : G26 g) (hS : Small b) (hL : Lots g b) {t : Nat × Nat} {ts : List (Nat × Nat)} (h : prs g b = t :: ts) : f__law_refused d [bkT g b] = .ok (pT t) := by
  have h1 := crossing_of (d := d + 1 + 1) hg hS hL h
  have h2 : f_tree_of (d + 1) [bkT g b] = .er ⟨cid_TwoCross, ["pair"], [pT t]⟩ := by
    have hx : T.frs [pT t] = true := rfl
    simp [f_tree_of, run_eq, ent_eq, S_tree_of, h1, hx]
  have hx : T.frs [pT t] = true := rfl
  have hnx : noX (pT t) = true := rfl
  have t1 : tab_TwoCross cid_TwoCross = some true := rfl
  have t2 : tab_TownError cid_TwoCross = some true := rfl
  have t3 : tab_ThreeCross cid_TwoCross = some false := rfl
  refine run_is ?_
  simp [ent_eq, S__law_refused, h2, hx, tryK_er, hnx, t1, t2, t3]
theorem tree_ev {g : Nat} {b : List Nat} (N : Nst g b) (hl : b.length ≤ 50) (d : Nat) : f_tree_of d [bkT g b] = .ok (trT g b) := by
  have hS : Small b := by unfold Small; omega
  have h1 := nested_of (d := d + 1) N.hg hS N.lots N.noX
  have hr : rfit (g : Int) = true := rfit_ok (by omega) (by have := N.hg.2; omega)
  have hb : lfit b.length = true := lfit_ok (by omega)
  have c1 : ∀ o1 o2, P.turnsC (S.tName 3) P.yes (P.call (f_smallest_with (d + 1)) (P.cons (P.un (T.fld [6] "sides") (P.var d 0)) (P.cons (P.var d 3) P.nil))) [some (.fz (bkT g b)), o1, o2, none, none] (b.map nT) = .ok (b.map fun a => nT (abv (pW a) b b.length)) := fun o1 o2 => by
    have hc := turnsC_map (tg := S.tName 3) (b := P.yes) (p := P.call (f_smallest_with (d + 1)) (P.cons (P.un (T.fld [6] "sides") (P.var d 0)) (P.cons (P.var d 3) P.nil))) (env := [some (.fz (bkT g b)), o1, o2, none, none]) (g := nT) (c := fun _ => true) (f := fun a => nT (abv (pW a) b b.length)) b (fun a ha => ⟨_, rfl, rfl, fun _ => by
      have hw := with_ev (d + 1) b a N.all hS
      have fs : T.fld [6] "sides" (bkT g b) = some (.tup (b.map nT)) := bk_sides g b
      simp [fs, hw]⟩)
    rw [hc, List.filter_eq_self.mpr (fun _ _ => rfl)]
  have c2 : ∀ o1 o2, P.turnsC (S.tName 4) P.yes (P.call (f_smallest_holding (d + 1)) (P.cons (P.un (T.fld [6] "sides") (P.var d 0)) (P.cons (P.un (T.fld [6] "sides") (P.var d 0)) (P.cons (P.var d 4) P.nil)))) [some (.fz (bkT g b)), o1, o2, none, none] (rng 0 g) = .ok ((ndN g b).map nT) := fun o1 o2 => by
    have hc := turnsC_map (tg := S.tName 4) (b := P.yes) (p := P.call (f_smallest_holding (d + 1)) (P.cons (P.un (T.fld [6] "sides") (P.var d 0)) (P.cons (P.un (T.fld [6] "sides") (P.var d 0)) (P.cons (P.var d 4) P.nil)))) (env := [some (.fz (bkT g b)), o1, o2, none, none]) (g := fun (k : Nat) => T.int (0 + (k : Int))) (c := fun _ => true) (f := fun k => nT (abv (fun x => x.testBit k) b b.length)) (List.range g) (fun k hk => ⟨_, rfl, rfl, fun _ => by
      have hw := holding_ev (d + 1) b k N.all hS
      have fs : T.fld [6] "sides" (bkT g b) = some (.tup (b.map nT)) := bk_sides g b
      simp [fs, hw]⟩)
    have e0 : rng 0 g = (List.range g).map fun (k : Nat) => T.int (0 + (k : Int)) := rfl
    rw [e0, hc, List.filter_eq_self.mpr (fun _ _ => rfl)]
    unfold ndN
    rw [List.map_map]
    rfl
  have e2 : T.add (.lst none [.non]) (.lst none (b.map fun a => nT (abv (pW a) b b.length))) = some (.lst none (prT b)) := by
    rw [addL (lfit_ok (by simp; omega))]
    rfl
  have fs : T.fld [6] "sides" (bkT g b) = some (.tup (b.map nT)) := bk_sides g b
  have fm : T.fld [6] "many" (bkT g b) = some (nT g) := bk_many g b
  have lr : lfit (rng 0 g).length = true := lfit_ok (by rw [rng_len]; have := N.hg.2; omega)
  have hin : f_init_Tree (d + 1) [bkT g b, .tup (prT b), .tup ((ndN g b).map nT)] = .ok (["book", "parents", "gate_nodes"], [bkT g b, .tup (prT b), .tup ((ndN g b).map nT)]) := by
    have key : ∃ r, f_init_Tree (d + 1) [bkT g b, .tup (prT b), .tup ((ndN g b).map nT)] = .ok r ∧ r = ((["book", "parents", "gate_nodes"] : List Str), [bkT g b, .tup (prT b), .tup ((ndN g b).map nT)]) := by
      refine runI_ok ?_
      simp [entI_eq, S_init_Tree, sne1, sne2, sne3]
    obtain ⟨r, h1, rfl⟩ := key
    exact h1
  have fp := frs_prT b
  have fn : T.frs ((ndN g b).map nT) = true := by simp
  have fb : T.fr (bkT g b) = true := by unfold bkT; simp
  generalize hP : (b.map fun a => nT (abv (pW a) b b.length)) = P at c1 e2
  generalize hQ : (ndN g b).map nT = Q at c2 hin fn
  have eT : T.ins none 5 ["book", "parents", "gate_nodes"] [bkT g b, .tup (prT b), .tup Q] = trT g b := by rw [← hQ]; rfl
  refine run_is ?_
  have l1 : lfit 1 = true := rfl
  simp [ent_eq, S_tree_of, h1, fs, fm, l1, hr, hb, lr, c1, c2, e2, fp, fn, fb, hin, eT]
/-! ### the law -/
theorem pds_prT (b : List Nat) : ∃ ds, T.pds (prT b) = some ds ∧ SeqAt.shaped (.list ds) = true ∧ SeqAt.shaped (.tuple ds) = true ∧ PyData.eqvAll ds ds = true := by
  unfold prT
  have e1 : (b.map fun a => nT (abv (pW a) b b.length)) = (b.map fun a => abv (pW a) b b.length).map nT := by rw [List.map_map]; rfl
  rw [e1]
  generalize (b.map fun a => abv (pW a) b b.length) = l
  refine ⟨.none :: l.map fun (x : Nat) => PyData.int (x : Int), ?_, ?_, ?_, ?_⟩
  · show (match T.pd .non, T.pds (l.map nT) with | some d, some ds => some (d :: ds) | _, _ => none) = _
    rw [pds_nat]
    rfl
  · exact shaped_nat l
  · exact shaped_nat l
  · show (PyData.eqv .none .none && PyData.eqvAll _ _) = true
    rw [eqv_nat, beq_self_eq_true]
    rfl
theorem ne_prT (b : List Nat) (g g' : Option Tag) : T.ne (.lst g (prT b)) (.lst g' (prT b)) = some (.bl false) := by
  obtain ⟨ds, h1, h2, h3, h4⟩ := pds_prT b
  show (match (T.pds (prT b)).map PyData.list, (T.pds (prT b)).map PyData.list with
    | some d, some e => if SeqAt.shaped d && SeqAt.shaped e then some (T.bl (!PyData.eqv d e)) else none
    | _, _ => none) = _
  rw [h1]
  show (if (SeqAt.shaped (.list _) && SeqAt.shaped (.list _)) = true then some (T.bl (!PyData.eqvAll _ _)) else none) = _
  rw [h2, h4]
  rfl
theorem ne_tupN (l : List Nat) : T.ne (.tup (l.map nT)) (.tup (l.map nT)) = some (.bl false) := by
  show (match (T.pds (l.map nT)).map PyData.tuple, (T.pds (l.map nT)).map PyData.tuple with
    | some d, some e => if SeqAt.shaped d && SeqAt.shaped e then some (T.bl (!PyData.eqv d e)) else none
    | _, _ => none) = _
  rw [pds_nat]
  show (if (SeqAt.shaped (.tuple _) && SeqAt.shaped (.tuple _)) = true then some (T.bl (!PyData.eqvAll _ _)) else none) = _
  rw [show SeqAt.shaped (.tuple (l.map fun (x : Nat) => PyData.int (x : Int))) = true from shaped_nat l, eqv_nat, beq_self_eq_true]
  rfl
theorem eq_tupN (l m : List Nat) : T.eq (.tup (l.map nT)) (.tup (m.map nT)) = some (.bl (l == m)) := by
  show (match (T.pds (l.map nT)).map PyData.tuple, (T.pds (m.map nT)).map PyData.tuple with
    | some d, some e => if SeqAt.shaped d && SeqAt.shaped e then some (T.bl (PyData.eqv d e)) else none
    | _, _ => none) = _
  rw [pds_nat, pds_nat]
  show (if (SeqAt.shaped (.tuple _) && SeqAt.shaped (.tuple _)) = true then some (T.bl (PyData.eqvAll _ _)) else none) = _
  rw [show ∀ l : List Nat, SeqAt.shaped (.tuple (l.map fun (x : Nat) => PyData.int (x : Int))) = true from shaped_nat, show ∀ l : List Nat, SeqAt.shaped (.tuple (l.map fun (x : Nat) => PyData.int (x : Int))) = true from shaped_nat, eqv_nat]
  rfl
/-- the two looks are one -/
theorem look_with {b : List Nat} (h : All64 b) {a : Nat} (ha : a < 64) : abv (pL a false) b b.length = abv (pW a) b b.length := abv_congr fun j hj => by
  unfold pL pW
  rw [Bool.false_or, Bool.and_comm]
  congr 1
  rw [Bool.eq_iff_iff, subB_iff ha, decide_eq_true_iff, and_iff]
theorem look_gate {b : List Nat} {k : Nat} (hk : k < 6) : abv (pL (2 ^ k) true) b b.length = abv (fun x => x.testBit k) b b.length := abv_congr fun j hj => by
  unfold pL
  rw [Bool.true_or, Bool.and_true, Bool.eq_iff_iff, subB_iff (show 2 ^ k < 64 from Nat.pow_lt_pow_right (by omega) hk)]
  constructor
  · intro h
    exact h k Nat.testBit_two_pow_self
  · intro h i hi
    rw [Nat.testBit_two_pow] at hi
    rw [← of_decide_eq_true hi]
    exact h
theorem nod_zero {g : Nat} {b : List Nat} (N : Nst g b) : abv (fun x => x.testBit 0) b b.length = 0 := by
  apply Classical.byContradiction
  intro h
  have h1 := (abv_of (p := fun x => x.testBit 0) (b := b)).1 h
  rw [N.zero _ (Sd_mem h (abv_le _ _ _))] at h1
  cases h1
theorem ne_bk (g : Nat) (b : List Nat) : T.cmpM 6 (f_meth_Book___ne__ 0) (bkT g b) (bkT g b) = some (.bl false) := by
  have fb : T.fr (bkT g b) = true := by unfold bkT; simp
  have fs : T.fld [6] "sides" (bkT g b) = some (.tup (b.map nT)) := bk_sides g b
  have fm : T.fld [6] "many" (bkT g b) = some (nT g) := bk_many g b
  have e1 : ∀ d, f_meth_Book___eq__ d [bkT g b, bkT g b] = .ok (.bl true) := fun d => by
    have ik : T.isk (lookK tabk_Book) (bkT g b) = some (.bl true) := rfl
    have q := eq_tupN b b
    refine run_is ?_
    simp [ent_eq, S_meth_Book___eq__, ik, fs, fm, q]
  have e2 : T.cmpM 6 (f_meth_Book___eq__ 0) (bkT g b) (bkT g b) = some (.bl true) := by
    show (if (6 = 6 ∧ 6 = 6 ∧ T.fr (bkT g b) = true ∧ T.fr (bkT g b) = true) then (match f_meth_Book___eq__ 0 [bkT g b, bkT g b] with
      | .ok (.bl b) => some (T.bl b)
      | _ => none) else none) = _
    rw [if_pos ⟨rfl, rfl, fb, fb⟩, e1]
  have e3 : ∀ d, f_meth_Book___ne__ d [bkT g b, bkT g b] = .ok (.bl false) := fun d => by
    refine run_is ?_
    simp [ent_eq, S_meth_Book___ne__, e2]
  show (if (6 = 6 ∧ 6 = 6 ∧ T.fr (bkT g b) = true ∧ T.fr (bkT g b) = true) then (match f_meth_Book___ne__ 0 [bkT g b, bkT g b] with
    | .ok (.bl b) => some (T.bl b)
    | _ => none) else none) = _
  rw [if_pos ⟨rfl, rfl, fb, fb⟩, e3]
end Lw

set_option Elab.async false
set_option linter.all false
set_option maxRecDepth 100000
set_option maxHeartbeats 4000000
namespace Lw
open PySem L2 Py
theorem side_zero {g a : Nat} (hg : G26 g) (h : Lot g a) : (sideN g a).testBit 0 = false := by
  unfold sideN Lot at *
  have hp := pow_ge hg
  have e2 : 2 ^ g % 2 = 0 := by
    have : 2 ^ g = 2 ^ (g - 1) * 2 := by rw [← Nat.pow_succ]; congr 1; have := hg.1; omega
    omega
  split
  · rename_i c
    rw [Nat.testBit_zero, decide_eq_true_iff] at c
    rw [Nat.testBit_zero, decide_eq_false_iff_not]
    omega
  · rename_i c
    simpa using c
theorem sum_sumB (p : Nat → Bool) (n : Nat) : (((List.range n).filter p).map fun k => 2 ^ k).sum = sumB p n := by
  induction n with
  | zero => rfl
  | succ n ih =>
    rw [List.range_succ, List.filter_append, List.map_append, List.sum_append, ih, sumB_succ]
    cases h : p n <;> simp [h]
theorem seq1 {b : List Nat} : T.eq (.tup (prT ([] : List Nat))) (.tup [.non]) = some (.bl true) := by kernel_rfl
theorem cut_tail (t : T) (ts : List T) : T.cutA (.tup (t :: ts)) (some 1) none = some (.tup ts) := by
  show some (T.tup ((List.drop (HT.sIx (t :: ts).length 0 (some ((1 : Nat) : Int))) (t :: ts)).take (HT.sIx (t :: ts).length (t :: ts).length none - HT.sIx (t :: ts).length 0 (some ((1 : Nat) : Int))))) = _
  rw [HT.sIx_none, HT.sIx_nat]
  rw [show min 1 (t :: ts).length = 1 by simp]
  simp
theorem mulA_zero {g : Nat} (hg : G26 g) : T.mulA (.tup [.int 0]) (nT g) = some (.tup ((List.replicate g 0).map nT)) := by
  obtain ⟨h1, h2⟩ := hg
  match g, h1, h2 with
  | 2, _, _ => rfl
  | 3, _, _ => rfl
  | 4, _, _ => rfl
  | 5, _, _ => rfl
  | 6, _, _ => rfl
theorem ndN_nil (g : Nat) : ndN g [] = List.replicate g 0 := by
  unfold ndN
  have e : (fun k => abv (fun x => x.testBit k) [] ([] : List Nat).length) = fun _ => 0 := by funext k; rfl
  rw [e, List.map_const', List.length_range]
theorem nst_nil {g : Nat} (hg : G26 g) : Nst g [] := ⟨hg, List.Pairwise.nil, fun a h => (by cases h), fun a h => (by cases h), rfl⟩
end Lw

set_option Elab.async false
set_option linter.all false
set_option maxRecDepth 100000
set_option maxHeartbeats 4000000
namespace Lw
open PySem L2 Py
theorem sat_seqI {Q : Wq} {a b : Sx} {env : Fv} (I : Fv → Prop) (h1 : sat { nx := I, rt := Q.rt } (a env)) (h2 : ∀ e, I e → sat Q (b e)) : sat Q (S.seq a b env) := by
  rw [ev_seq, sat_k]
  exact sat_mono h1 h2 (fun _ z => z) (fun _ z => z.elim) (fun _ z => z.elim) (fun _ _ z => z.elim)
theorem sat_last {Q : Wq} {r : RS} (h : sat { rt := Q.rt } r) : sat Q r := sat_mono h (fun _ z => z.elim) (fun _ z => z) (fun _ z => z.elim) (fun _ z => z.elim) (fun _ _ z => z.elim)
theorem pure_lawD (d : Nat) (ns : List Int) : f_law d [.ro (ns.map T.int)] = .ok (.bl true) := by
  obtain ⟨c0, hc0⟩ := cell_ev (d + 1) ns 0 (by omega)
  have hc0' : f__law_cell (d + 1) [.ro (ns.map T.int), .int 0] = .ok (.int c0) := hc0
  obtain ⟨c1, hc1⟩ := cell_ev (d + 1) ns 1 (by omega)
  have hc1' : f__law_cell (d + 1) [.ro (ns.map T.int), .int 1] = .ok (.int c1) := hc1
  obtain ⟨kind, hk, hdg⟩ := digitsN_ev (d + 1) c0 none [5, 7, 3] (by decide) (by decide)
  have hd : f__law_digits (d + 1) [.int c0, .lst none [.int 5, .int 7, .int 3]] = .ok (.lst none (kind.map nT)) := hdg
  have hkl : kind.length = 3 := hk.length
  have i0 : atI (kind.map nT) 0 = some (nT (kind[0]'(by omega))) := atI_map (k := 0) (by omega)
  have i1 : atI (kind.map nT) 1 = some (nT (kind[1]'(by omega))) := atI_map (k := 1) (by omega)
  have i2 : atI (kind.map nT) 2 = some (nT (kind[2]'(by omega))) := atI_map (k := 2) (by omega)
  have k1 : kind[1]'(by omega) < 7 := hk.get (k := 1) (List.getElem?_eq_getElem _) rfl
  obtain ⟨g, hg, ig⟩ : ∃ g : Nat, G26 g ∧ atI [T.int 4, .int 5, .int 6, .int 5, .int 6, .int 3, .int 2] ((kind[1]'(by omega) : Nat) : Int) = some (nT g) := by
    generalize kind[1]'(by omega) = x at k1
    match x, k1 with
    | 0, _ => exact ⟨4, ⟨by omega, by omega⟩, rfl⟩
    | 1, _ => exact ⟨5, ⟨by omega, by omega⟩, rfl⟩
    | 2, _ => exact ⟨6, ⟨by omega, by omega⟩, rfl⟩
    | 3, _ => exact ⟨5, ⟨by omega, by omega⟩, rfl⟩
    | 4, _ => exact ⟨6, ⟨by omega, by omega⟩, rfl⟩
    | 5, _ => exact ⟨3, ⟨by omega, by omega⟩, rfl⟩
    | 6, _ => exact ⟨2, ⟨by omega, by omega⟩, rfl⟩
  generalize kind[0]'(by omega) = x0 at i0
  generalize kind[1]'(by omega) = x1 at i1 ig
  generalize kind[2]'(by omega) = x2 at i2
  have l3 : lfit 3 = true := rfl
  have l7 : lfit 7 = true := rfl
  have l2 : lfit 2 = true := rfl
  have l1 : lfit 1 = true := rfl
  have l0 : lfit 0 = true := rfl
  have an0 : atI [T.str "nested", .str "any"] 0 = some (.str "nested") := rfl
  have an1 : atI [T.str "nested", .str "any"] 1 = some (.str "any") := rfl
  refine run_is ?_
  rw [show ent 16 [T.ro (ns.map T.int)] = [some (.fz (.ro (ns.map T.int))), none, none, none, none, none, none, none, none, none, none, none, none, none, none, none] from rfl]
  unfold S_law
  refine sat_seqI (fun e => e = [some (.fz (.ro (ns.map T.int))), some (.fz (.lst none (kind.map nT))), none, none, none, none, none, none, none, none, none, none, none, none, none, none]) (by simp [hc0', l3, hd]) ?_
  rintro e rfl
  refine sat_seqI (fun e => e = [some (.fz (.ro (ns.map T.int))), some (.fz (.lst none (kind.map nT))), some (.fz (nT g)), none, none, none, none, none, none, none, none, none, none, none, none, none]) (by simp [l7, i1, ig]) ?_
  rintro e rfl
  refine sat_seqI (fun e => ∃ ls : List Nat, e = [some (.fz (.ro (ns.map T.int))), some (.fz (.lst none (kind.map nT))), some (.fz (nT g)), some (.fz (.lst none (ls.map nT))), none, none, none, none, none, none, none, none, none, none, none, none] ∧ Lots g ls ∧ ls.length ≤ 16 ∧ (ls.map (sideN g)).Nodup) ?_ ?_
  · by_cases c : x0 = 4
    · subst c
      obtain ⟨t, h1, ls, rfl, q⟩ := lots_ev (d + 1) g 9 c1 "any" hg (by omega) (by simp)
      have h1' : f__law_lots (d + 1) [.int c1, nT g, .int 9, .str "any"] = .ok (.lst none (ls.map nT)) := h1
      simp [hc1', l2, i0, an1, h1']
      exact ⟨ls, rfl, q⟩
    · obtain ⟨t, h1, ls, rfl, q⟩ := lots_ev (d + 1) g 9 c1 "nested" hg (by omega) (by simp)
      have h1' : f__law_lots (d + 1) [.int c1, nT g, .int 9, .str "nested"] = .ok (.lst none (ls.map nT)) := h1
      have c' : ¬ ((x0 : Nat) : Int) = 4 := by omega
      simp [hc1', l2, i0, c', an0, h1']
      exact ⟨ls, rfl, q⟩
  rintro e ⟨ls, rfl, hL, hlen, hN⟩
  refine sat_seqI (fun e => ∃ ls : List Nat, e = [some (.fz (.ro (ns.map T.int))), some (.fz (.lst none (kind.map nT))), some (.fz (nT g)), some (.fz (.lst none (ls.map nT))), none, none, none, none, none, none, none, none, none, none, none, none] ∧ Lots g ls ∧ ls.length ≤ 16 ∧ (ls.map (sideN g)).Nodup) ?_ ?_
  · by_cases c2 : x2 = 1
    · by_cases c0 : x0 = 2
      · subst c2 c0
        have q : T.cutA (.lst none (ls.map nT)) none (some 1) = some (.lst none ((ls.take 1).map nT)) := cut_hi ls none 1
        generalize hq : ls.take 1 = l1s at q
        simp [i0, i2, q]
        subst hq
        exact ⟨ls.take 1, rfl, fun a ha => hL a (List.mem_of_mem_take ha), by simp; omega, by rw [List.map_take]; exact hN.sublist (List.take_sublist _ _)⟩
      · have c0' : ¬ ((x0 : Nat) : Int) = 2 := by omega
        subst c2
        simp [i0, i2, c0']
        exact ⟨ls, rfl, hL, hlen, hN⟩
    · have c2' : ¬ ((x2 : Nat) : Int) = 1 := by omega
      simp [i0, i2, c2']
      exact ⟨ls, rfl, hL, hlen, hN⟩
  clear hL hlen hN ls
  rintro e ⟨ls, rfl, hL, hlen, hN⟩
  have ebs : srt (ls.map (sideN g)) = bs g ls := asc_unique (srt_asc hN) (bs_asc g ls) fun a => by rw [mem_srt, mem_bs]
  have hin := init_ev (d + 1) g ls hg hL (by omega) none
  have hbl := bs_len g ls
  have hBL := bs_lots hL
  have hA := bs_asc g ls
  have hZ : ∀ a ∈ bs g ls, a.testBit 0 = false := fun a ha => by
    obtain ⟨c, hc, rfl⟩ := List.mem_map.mp (mem_bs.mp ha)
    exact side_zero hg (hL c hc)
  have hcp : ∀ o1 o2 o3, P.turnsC (S.tName 14) P.yes (P.call (f__law_side (d + 1)) (P.cons (P.var d 2) (P.cons (P.var d 14) P.nil))) [o1, o2, some (.fz (nT g)), o3, none, none, none, none, none, none, none, none, none, none, none, none] (ls.map nT) = .ok ((ls.map (sideN g)).map nT) := fun o1 o2 o3 => sides_of hg hL 2 14 _ (by simp) rfl (by omega)
  have hso := sorted_nats (ls.map (sideN g)) none
  rw [ebs] at hso
  have hfl : lfit ls.length = true := lfit_ok (by omega)
  generalize ls.map (sideN g) = ms at hcp hso
  generalize hb : bs g ls = b at hin hbl hBL hA hZ hso
  have hbl50 : b.length ≤ 50 := by omega
  have hS : Small b := by unfold Small; omega
  refine sat_seqI (fun e => e = [some (.fz (.ro (ns.map T.int))), some (.fz (.lst none (kind.map nT))), some (.fz (nT g)), some (.fz (.lst none (ls.map nT))), some (.fz (.lst none (b.map nT))), none, none, none, none, none, none, none, none, none, none, none]) (by simp [hfl, hcp, hso, -List.map_map]) ?_
  rintro e rfl
  have bk : T.ins none cid_Book ["many", "sides"] [nT g, .tup (b.map nT)] = bkT g b := rfl
  have fb : T.fr (bkT g b) = true := by unfold bkT; simp
  refine sat_seqI (fun e => e = [some (.fz (.ro (ns.map T.int))), some (.fz (.lst none (kind.map nT))), some (.fz (nT g)), some (.fz (.lst none (ls.map nT))), some (.fz (.lst none (b.map nT))), some (.fz (bkT g b)), none, none, none, none, none, none, none, none, none, none]) (by simp [hin, bk, fb]) ?_
  rintro e rfl
  have hf2 := first2_ev (d + 1) g b (by have := hg.2; omega) hS none
  cases hp : prs g b with
  | cons t ts =>
    rw [hp] at hf2
    have hr := refused_ev (d := d + 1) hg hS hBL hp
    have q1 := eq_pT t
    refine sat_seqI (fun e => e = [some (.fz (.ro (ns.map T.int))), some (.fz (.lst none (kind.map nT))), some (.fz (nT g)), some (.fz (.lst none (ls.map nT))), some (.fz (.lst none (b.map nT))), some (.fz (bkT g b)), some (.fz (.lst none [nT t.1, nT t.2])), none, none, none, none, none, none, none, none, none]) (by simp [hf2]) ?_
    rintro e rfl
    refine sat_seqI (fun _ => False) ?_ (fun _ z => z.elim)
    have n1 : T.notA (.lst none [nT t.1, nT t.2]) .non = some (.bl true) := rfl
    have a0 : atI [nT t.1, nT t.2] 0 = some (nT t.1) := rfl
    have a1 : atI [nT t.1, nT t.2] 1 = some (nT t.2) := rfl
    have q1' : T.eq (pT t) (.tup [nT t.1, nT t.2]) = some (.bl true) := q1
    simp [n1, hr, a0, a1, l2, q1']
  | nil =>
    rw [hp] at hf2
    have N : Nst g b := ⟨hg, hA, hBL, hZ, hp⟩
    have n2 : T.notA .non .non = some (.bl false) := rfl
    refine sat_seqI (fun e => e = [some (.fz (.ro (ns.map T.int))), some (.fz (.lst none (kind.map nT))), some (.fz (nT g)), some (.fz (.lst none (ls.map nT))), some (.fz (.lst none (b.map nT))), some (.fz (bkT g b)), some (.fz .non), none, none, none, none, none, none, none, none, none]) (by simp [hf2]) ?_
    rintro e rfl
    refine sat_seqI (fun e => e = [some (.fz (.ro (ns.map T.int))), some (.fz (.lst none (kind.map nT))), some (.fz (nT g)), some (.fz (.lst none (ls.map nT))), some (.fz (.lst none (b.map nT))), some (.fz (bkT g b)), some (.fz .non), none, none, none, none, none, none, none, none, none]) (by simp [n2]) ?_
    rintro e rfl
    have htr := tree_ev N hbl50 (d + 1)
    refine sat_seqI (fun e => e = [some (.fz (.ro (ns.map T.int))), some (.fz (.lst none (kind.map nT))), some (.fz (nT g)), some (.fz (.lst none (ls.map nT))), some (.fz (.lst none (b.map nT))), some (.fz (bkT g b)), some (.fz .non), some (.fz (trT g b)), none, none, none, none, none, none, none, none]) (by simp [htr]) ?_
    rintro e rfl
    have ik : T.isk (lookK tabk_Tree) (trT g b) = some (.bl true) := rfl
    have nb := ne_bk g b
    have fbk : T.fld [5] "book" (trT g b) = some (bkT g b) := tr_book g b
    have fpr : T.fld [5] "parents" (trT g b) = some (.tup (prT b)) := tr_parents g b
    have fnd : T.fld [5] "gate_nodes" (trT g b) = some (.tup ((ndN g b).map nT)) := tr_nodes g b
    have it : kitB "tuple" "tuple" = some true := kt5
    refine sat_seqI (fun e => e = [some (.fz (.ro (ns.map T.int))), some (.fz (.lst none (kind.map nT))), some (.fz (nT g)), some (.fz (.lst none (ls.map nT))), some (.fz (.lst none (b.map nT))), some (.fz (bkT g b)), some (.fz .non), some (.fz (trT g b)), none, none, none, none, none, none, none, none]) (by simp [ik, fbk, nb, fpr, it]) ?_
    rintro e rfl
    have e2 : T.add (.lst none [.non]) (.lst none (b.map fun a => nT (abv (pW a) b b.length))) = some (.lst none (prT b)) := by
      rw [addL (lfit_ok (by simp; omega))]
      rfl
    have hb1 : lfit b.length = true := lfit_ok (by omega)
    have cc1 : P.turnsC (S.tName 14) P.yes (P.call (f__law_above (d + 1)) (P.cons (P.var d 4) (P.cons (P.var d 14) (P.cons (P.c (.bl false)) P.nil)))) [some (.fz (.ro (ns.map T.int))), some (.fz (.lst none (kind.map nT))), some (.fz (nT g)), some (.fz (.lst none (ls.map nT))), some (.fz (.lst none (b.map nT))), some (.fz (bkT g b)), some (.fz .non), some (.fz (trT g b)), none, none, none, none, none, none, none, none] (b.map nT) = .ok (b.map fun a => nT (abv (pW a) b b.length)) := by
      have hc := turnsC_map (tg := S.tName 14) (b := P.yes) (p := P.call (f__law_above (d + 1)) (P.cons (P.var d 4) (P.cons (P.var d 14) (P.cons (P.c (.bl false)) P.nil)))) (env := [some (.fz (.ro (ns.map T.int))), some (.fz (.lst none (kind.map nT))), some (.fz (nT g)), some (.fz (.lst none (ls.map nT))), some (.fz (.lst none (b.map nT))), some (.fz (bkT g b)), some (.fz .non), some (.fz (trT g b)), none, none, none, none, none, none, none, none]) (g := nT) (c := fun _ => true) (f := fun a => nT (abv (pW a) b b.length)) b (fun a ha => ⟨_, rfl, rfl, fun _ => by
        have hw := above_ev (d + 1) b a false none hS
        rw [look_with N.all (N.all a ha)] at hw
        simp [hw]⟩)
      rw [hc, List.filter_eq_self.mpr (fun _ _ => rfl)]
    refine sat_seqI (fun e => e = [some (.fz (.ro (ns.map T.int))), some (.fz (.lst none (kind.map nT))), some (.fz (nT g)), some (.fz (.lst none (ls.map nT))), some (.fz (.lst none (b.map nT))), some (.fz (bkT g b)), some (.fz .non), some (.fz (trT g b)), some (.fz (.lst none (prT b))), none, none, none, none, none, none, none]) (by
      generalize (b.map fun a => nT (abv (pW a) b b.length)) = P at cc1 e2
      simp [l1, hb1, cc1, e2]) ?_
    rintro e rfl
    have hr : rfit (g : Int) = true := rfit_ok (by omega) (by have := hg.2; omega)
    have lr : lfit (rng 0 g).length = true := lfit_ok (by rw [rng_len]; have := hg.2; omega)
    have cc2 : P.turnsC (S.tName 15) P.yes (P.call (f__law_above (d + 1)) (P.cons (P.var d 4) (P.cons (P.bin T.shl (P.c (.int 1)) (P.var d 15)) (P.cons (P.c (.bl true)) P.nil)))) [some (.fz (.ro (ns.map T.int))), some (.fz (.lst none (kind.map nT))), some (.fz (nT g)), some (.fz (.lst none (ls.map nT))), some (.fz (.lst none (b.map nT))), some (.fz (bkT g b)), some (.fz .non), some (.fz (trT g b)), some (.fz (.lst none (prT b))), none, none, none, none, none, none, none] (rng 0 g) = .ok ((ndN g b).map nT) := by
      have hc := turnsC_map (tg := S.tName 15) (b := P.yes) (p := P.call (f__law_above (d + 1)) (P.cons (P.var d 4) (P.cons (P.bin T.shl (P.c (.int 1)) (P.var d 15)) (P.cons (P.c (.bl true)) P.nil)))) (env := [some (.fz (.ro (ns.map T.int))), some (.fz (.lst none (kind.map nT))), some (.fz (nT g)), some (.fz (.lst none (ls.map nT))), some (.fz (.lst none (b.map nT))), some (.fz (bkT g b)), some (.fz .non), some (.fz (trT g b)), some (.fz (.lst none (prT b))), none, none, none, none, none, none, none]) (g := fun (k : Nat) => T.int (0 + (k : Int))) (c := fun _ => true) (f := fun k => nT (abv (fun x => x.testBit k) b b.length)) (List.range g) (fun k hk => ⟨_, rfl, rfl, fun _ => by
        have hk' : k < 6 := by have := List.mem_range.mp hk; have := hg.2; omega
        have hw := above_ev (d + 1) b (2 ^ k) true none hS
        rw [look_gate hk'] at hw
        have hs := shl_one (j := (k : Int)) (by omega) (by omega)
        have e3 : nT (2 ^ k) = T.int (2 ^ k) := by simp [nT]
        rw [e3] at hw
        simp [hs, hw]⟩)
      have e0 : rng 0 g = (List.range g).map fun (k : Nat) => T.int (0 + (k : Int)) := rfl
      rw [e0, hc, List.filter_eq_self.mpr (fun _ _ => rfl)]
      unfold ndN
      rw [List.map_map]
      rfl
    refine sat_seqI (fun e => e = [some (.fz (.ro (ns.map T.int))), some (.fz (.lst none (kind.map nT))), some (.fz (nT g)), some (.fz (.lst none (ls.map nT))), some (.fz (.lst none (b.map nT))), some (.fz (bkT g b)), some (.fz .non), some (.fz (trT g b)), some (.fz (.lst none (prT b))), some (.fz (.lst none ((ndN g b).map nT))), none, none, none, none, none, none]) (by
      generalize (ndN g b).map nT = P at cc2
      simp [hr, lr, cc2]) ?_
    rintro e rfl
    have np := ne_prT b none none
    have nq := ne_tupN (ndN g b)
    have at0 : atI (prT b) 0 = some .non := by
      rw [show (0 : Int) = ((0 : Nat) : Int) from rfl, Py.atI_nat (by rw [prT_len]; omega)]
      rfl
    have hnl : (ndN g b).length = g := by simp [ndN]
    have nd0 : atI ((ndN g b).map nT) 0 = some (nT 0) := by
      have := atI_map (g := nT) (l := ndN g b) (k := 0) (by have := hg.1; omega)
      have e : (ndN g b)[0]'(by have := hg.1; omega) = 0 := by
        have e1 : (ndN g b)[0]'(by have := hg.1; omega) = abv (fun x => x.testBit 0) b b.length := by simp [ndN, -Nat.testBit_zero]
        rw [e1]
        exact nod_zero N
      rw [e] at this
      exact this
    refine sat_seqI (fun e => e = [some (.fz (.ro (ns.map T.int))), some (.fz (.lst none (kind.map nT))), some (.fz (nT g)), some (.fz (.lst none (ls.map nT))), some (.fz (.lst none (b.map nT))), some (.fz (bkT g b)), some (.fz .non), some (.fz (trT g b)), some (.fz (.lst none (prT b))), some (.fz (.lst none ((ndN g b).map nT))), none, none, none, none, none, none]) (by
      generalize (ndN g b).map nT = P at nq nd0 fnd
      simp [fpr, fnd, np, nq, at0, nd0, n2]) ?_
    rintro e rfl
    have ct : T.cutA (.tup (prT b)) (some 1) none = some (.tup (b.map fun a => nT (abv (pW a) b b.length))) := cut_tail _ _
    have e5 : (b.map fun a => nT (abv (pW a) b b.length)) = (b.map fun a => abv (pW a) b b.length).map nT := by rw [List.map_map]; rfl
    have e6 : T.add (.lst none ((ndN g b).map nT)) (.lst none ((b.map fun a => abv (pW a) b b.length).map nT)) = some (.lst none ((ndN g b ++ b.map fun a => abv (pW a) b b.length).map nT)) := by
      rw [addL (lfit_ok (by simp [hnl]; have := hg.2; omega)), List.map_append]
    rw [e5] at ct
    refine sat_seqI (fun e => ∃ o, e = [some (.fz (.ro (ns.map T.int))), some (.fz (.lst none (kind.map nT))), some (.fz (nT g)), some (.fz (.lst none (ls.map nT))), some (.fz (.lst none (b.map nT))), some (.fz (bkT g b)), some (.fz .non), some (.fz (trT g b)), some (.fz (.lst none (prT b))), some (.fz (.lst none ((ndN g b).map nT))), o, none, none, none, none, none]) ?_ ?_
    · generalize (b.map fun a => abv (pW a) b b.length) = pa at ct e6
      generalize ndN g b ++ pa = al at e6
      generalize ndN g b = nd at fnd e6
      simp [fpr, fnd, ct, e6]
      refine sat_map (g := nT) (fun k e => ∃ o, e = [some (.fz (.ro (ns.map T.int))), some (.fz (.lst none (kind.map nT))), some (.fz (nT g)), some (.fz (.lst none (ls.map nT))), some (.fz (.lst none (b.map nT))), some (.fz (bkT g b)), some (.fz .non), some (.fz (trT g b)), some (.fz (.lst none (prT b))), some (.fz (.lst none (nd.map nT))), o, none, none, none, none, none]) ⟨none, rfl⟩ ?_ (fun _ z => z)
      rintro k a e _ ⟨o, rfl⟩
      have hw := whole_int (d + 1) (a : Int)
      have we : f__law_whole = LL.f_whole := rfl
      exact ⟨_, rfl, by simp [we, hw]⟩
    rintro e ⟨o10, rfl⟩
    have hrb : rfit (b.length : Int) = true := rfit_ok (by omega) (by omega)
    refine sat_seqI (fun e => ∃ o10 o11 o12, e = [some (.fz (.ro (ns.map T.int))), some (.fz (.lst none (kind.map nT))), some (.fz (nT g)), some (.fz (.lst none (ls.map nT))), some (.fz (.lst none (b.map nT))), some (.fz (bkT g b)), some (.fz .non), some (.fz (trT g b)), some (.fz (.lst none (prT b))), some (.fz (.lst none ((ndN g b).map nT))), o10, o11, o12, none, none, none]) ?_ ?_
    · simp [hrb]
      refine sat_rngN (fun k e => ∃ o10 o11 o12, e = [some (.fz (.ro (ns.map T.int))), some (.fz (.lst none (kind.map nT))), some (.fz (nT g)), some (.fz (.lst none (ls.map nT))), some (.fz (.lst none (b.map nT))), some (.fz (bkT g b)), some (.fz .non), some (.fz (trT g b)), some (.fz (.lst none (prT b))), some (.fz (.lst none ((ndN g b).map nT))), o10, o11, o12, none, none, none]) 0 rfl ⟨o10, none, none, rfl⟩ ?_ (fun _ z => by simpa using z)
      rintro k e hk ⟨o10, o11, o12, rfl⟩
      refine ⟨_, rfl, ?_⟩
      have hk' : k < b.length := by simpa using hk
      have ik := atI_map (g := nT) hk'
      have hlt : b[k] < 2 ^ g := N.lt (List.getElem_mem hk')
      have cc : ∀ o10 o12, P.turnsC (S.tName 15) (P.tb (P.bin (T.isIn false) (P.bin T.add (P.var d 11) (P.c (.int 1))) (P.call (f__law_line (d + 1)) (P.cons (P.var d 8) (P.cons (P.bin T.ix (P.var d 9) (P.var d 15)) P.nil))))) (P.var d 15)
          [some (.fz (.ro (ns.map T.int))), some (.fz (.lst none (kind.map nT))), some (.fz (nT g)), some (.fz (.lst none (ls.map nT))), some (.fz (.lst none (b.map nT))), some (.fz (bkT g b)), some (.fz .non), some (.fz (trT g b)), some (.fz (.lst none (prT b))), some (.fz (.lst none ((ndN g b).map nT))), o10, some (.fz (nT k)), o12, none, none, none] (rng 0 g) = .ok (((List.range g).filter b[k].testBit).map nT) := fun o10 o12 => by
        refine turnsC_map (g := fun (j : Nat) => T.int (0 + (j : Int))) (f := nT) (c := b[k].testBit) (List.range g) (fun j hj => ⟨_, rfl, ?_, fun _ => by simp⟩)
        have hj' := List.mem_range.mp hj
        have a1 := atI_map (g := nT) (l := ndN g b) (k := j) (by omega)
        have a2 : (ndN g b)[j]'(by omega) = abv (fun x => x.testBit j) b b.length := by simp [ndN]
        rw [a2] at a1
        have hle := abv_le (fun x => x.testBit j) b b.length
        have a3 := line_ev (d + 1) b (abv (fun x => x.testBit j) b b.length) none hle
        have a4 := (inV_nat (k + 1) (chn b 12 (abv (fun x => x.testBit j) b b.length))).1
        have a5 : (chn b 12 (abv (fun x => x.testBit j) b b.length)).contains (k + 1) = b[k].testBit j := by
          have hs : Sd b (k + 1) = b[k] := by unfold Sd; rw [Nat.add_sub_cancel, getD_get hk']
          rw [Bool.eq_iff_iff, List.contains_iff_mem, N.gate (by omega) (by omega), hs]
        rw [a5] at a4
        generalize chn b 12 (abv (fun x => x.testBit j) b b.length) = l at a3 a4
        generalize abv (fun x => x.testBit j) b b.length = v at a1 a3
        have a4' : T.isIn false (.int ((k : Int) + 1)) (.lst none (l.map nT)) = some (.bl (b[k].testBit j)) := a4
        simp [a1, a3, a4']
      have hsum : ((((List.range g).filter b[k].testBit).map fun j => 2 ^ j).sum) = b[k] := by rw [sum_sumB, sumB_of hlt]
      generalize hfl : (List.range g).filter b[k].testBit = fl at cc hsum
      have hfl2 : fl.length ≤ 6 := by
        rw [← hfl]
        exact Nat.le_trans (List.length_filter_le _ _) (by simp; exact hg.2)
      have hfl3 : ∀ j ∈ fl, j < 6 := fun j hj => by
        rw [← hfl] at hj
        have := List.mem_range.mp (List.mem_filter.mp hj).1
        have := hg.2
        omega
      have dd : ∀ o10 o11, P.turnsC (S.tName 15) P.yes (P.bin T.shl (P.c (.int 1)) (P.var d 15)) [some (.fz (.ro (ns.map T.int))), some (.fz (.lst none (kind.map nT))), some (.fz (nT g)), some (.fz (.lst none (ls.map nT))), some (.fz (.lst none (b.map nT))), some (.fz (bkT g b)), some (.fz .non), some (.fz (trT g b)), some (.fz (.lst none (prT b))), some (.fz (.lst none ((ndN g b).map nT))), o10, o11, some (.fz (.lst none (fl.map nT))), none, none, none] (fl.map nT) = .ok ((fl.map fun j => 2 ^ j).map nT) := fun o10 o11 => by
        have hc := turnsC_map (tg := S.tName 15) (b := P.yes) (p := P.bin T.shl (P.c (.int 1)) (P.var d 15)) (env := [some (.fz (.ro (ns.map T.int))), some (.fz (.lst none (kind.map nT))), some (.fz (nT g)), some (.fz (.lst none (ls.map nT))), some (.fz (.lst none (b.map nT))), some (.fz (bkT g b)), some (.fz .non), some (.fz (trT g b)), some (.fz (.lst none (prT b))), some (.fz (.lst none ((ndN g b).map nT))), o10, o11, some (.fz (.lst none (fl.map nT))), none, none, none]) (g := nT) (c := fun _ => true) (f := fun j => nT (2 ^ j)) fl (fun j hj => ⟨_, rfl, rfl, fun _ => by
          have hs := shl_one (j := (j : Int)) (by omega) (by have := hfl3 j hj; omega)
          simp [hs]⟩)
        rw [hc, List.filter_eq_self.mpr (fun _ _ => rfl), List.map_map]
        rfl
      have sm := sum_nat (fl.map fun j => 2 ^ j) none
      rw [hsum] at sm
      generalize (fl.map fun j => 2 ^ j) = pw at dd sm
      have hlf : lfit fl.length = true := lfit_ok (by omega)
      simp [hr, lr, cc, hlf, dd, sm, ik, -List.map_map]
    rintro e ⟨o10, o11, o12, rfl⟩
    have hat := areties_ev N hbl50 (d + 1)
    have hpl := prT_len b
    have hat' : f__law_are_ties (d + 1) [trT g b, .lst none (prT b), .int ((b.length : Int) + 1)] = .ok (.bl true) := hat
    refine sat_seqI (fun e => e = [some (.fz (.ro (ns.map T.int))), some (.fz (.lst none (kind.map nT))), some (.fz (nT g)), some (.fz (.lst none (ls.map nT))), some (.fz (.lst none (b.map nT))), some (.fz (bkT g b)), some (.fz .non), some (.fz (trT g b)), some (.fz (.lst none (prT b))), some (.fz (.lst none ((ndN g b).map nT))), o10, o11, o12, none, none, none]) (by simp [hpl, hat']) ?_
    rintro e rfl
    have hin0 := init_ev (d + 1) g [] hg (fun a h => by cases h) (by simp) none
    have bs0 : bs g [] = [] := List.length_eq_zero_iff.mp (Nat.le_zero.mp (bs_len g []))
    rw [bs0] at hin0
    have hin0' : f_init_Book (d + 1) [nT g, .lst none []] = .ok (["many", "sides"], [nT g, .tup []]) := hin0
    have bk0 : T.ins none cid_Book ["many", "sides"] [nT g, .tup []] = bkT g [] := rfl
    have tr0 := tree_ev (nst_nil hg) (by simp) (d + 1)
    refine sat_seqI (fun e => e = [some (.fz (.ro (ns.map T.int))), some (.fz (.lst none (kind.map nT))), some (.fz (nT g)), some (.fz (.lst none (ls.map nT))), some (.fz (.lst none (b.map nT))), some (.fz (bkT g b)), some (.fz .non), some (.fz (trT g b)), some (.fz (.lst none (prT b))), some (.fz (.lst none ((ndN g b).map nT))), o10, o11, o12, some (.fz (trT g [])), none, none]) (by simp [l0, hin0', bk0, tr0]) ?_
    rintro e rfl
    have fp0 : T.fld [5] "parents" (trT g []) = some (.tup (prT [])) := tr_parents g []
    have fn0 : T.fld [5] "gate_nodes" (trT g []) = some (.tup ((ndN g []).map nT)) := tr_nodes g []
    have q1 := seq1 (b := b)
    have q2 := mulA_zero hg
    have q3 := eq_tupN (ndN g []) (List.replicate g 0)
    rw [ndN_nil, beq_self_eq_true] at q3
    rw [ndN_nil] at fn0
    have ti0 := ties_ev (nst_nil hg) (d + 1) (v := 0) (u := 0) (by simp) (by simp)
    have ti0' : f_ties_between (d + 1) [trT g [], .int 0, .int 0] = .ok (.tup []) := ti0
    have q4 : T.eq (.tup []) (.tup []) = some (.bl true) := rfl
    generalize prT [] = pr0 at fp0 q1
    generalize (List.replicate g 0).map nT = rp at fn0 q2 q3
    simp [fp0, fn0, q1, q2, q3, ti0', q4, l1, l0]
theorem pure_law (ns : List Int) (hn : ns.length ≤ 63) : f_law 1 [.ro (ns.map T.int)] = .ok (.bl true) := pure_lawD 1 ns
end Lw

theorem PySem.Challenge.cw_fullsides_k81_trees_holds : PySem.Challenge.rw_fullsides_k81_trees.Holds := by
  exact lw_holds Lw.pure_law
