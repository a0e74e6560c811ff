import PyProof.Rows.All
import Wide.All
import OpenK.AllK
import Wide.FinOn
import HandS.ForMost
import HandS.ForExc
import HandS.ExcInit
import HandS.ExcField
import HandS.Wide
import HandS.WideMore
import HandS.WideBits
import HandS.IsInst
import HandS.Evl
import HandS.Defaults
import HandS.Head0
import HandS.Head1
import HandS.Head2
import HandS.HeadEnd
import HandS.HeadHook1
import HandS.HeadHook2
import HandS.ExcIs
import HandS.TryOnly
import KE.KExcIs
import PyProof.MaxThree
import HandS.EndBits
import HandS.Style
import PySem.Challenge.RW_fullsides_k31_uncrossed
set_option Elab.async false
set_option linter.all false
set_option maxRecDepth 100000
set_option maxHeartbeats 4000000
/-! Pure trees for what the program holds; what a reading of the hand layer gives, told over such trees. -/
namespace Py
open PySem L2 PySem.Spec PyProof.Rows Evl

/-! ### trees -/
/-- who owns a changeable thing: the depth of a call, the slot of its frame -/
abbrev Tag := Nat × Nat
inductive T where
  | non
  | bl (b : Bool)
  | int (i : Int)
  | str (s : Str)
  | lst (g : Option Tag) (ts : List T)
  | tup (ts : List T)
  | ro (ts : List T)
  | ins (g : Option Tag) (c : Nat) (ns : List Str) (ts : List T)
  | exn (c : Nat) (ns : List Str) (ts : List T)
  deriving Inhabited
structure Exn where
  c : Nat
  ns : List Str
  ts : List T
inductive Res (α : Type) where
  | ok (a : α)
  | er (e : Exn)
  | stuck
theorem nrfl {α : Sort u} {a b : α} (h : a = b) : a = b := h
def Res.bind {α β : Type} (r : Res α) (f : α → Res β) : Res β := match r with
  | .ok a => f a
  | .er e => .er e
  | .stuck => .stuck
def Res.of {α : Type} : Option α → Res α
  | some a => .ok a
  | none => .stuck
@[simp] theorem Res.bind_ok {α β : Type} (a : α) (f : α → Res β) : Res.bind (.ok a) f = f a := nrfl rfl
@[simp] theorem Res.bind_er {α β : Type} (e : Exn) (f : α → Res β) : Res.bind (.er e) f = .er e := nrfl rfl
@[simp] theorem Res.bind_stuck {α β : Type} (f : α → Res β) : Res.bind (.stuck) f = .stuck := nrfl rfl
@[simp] theorem Res.of_some {α : Type} (a : α) : Res.of (some a) = .ok a := nrfl rfl

/-! ### what stands for a tree -/
abbrev Al := Tag → Option Addr
/-- the classes' addresses; the exception that a suite holds: where it stands, its class, its dict -/
structure Cl where
  f : Nat → Addr
  xh : Option (Addr × Value × Option Addr) := none
structure Ge where
  K : PySem.W.Frag
  c : Cl
def Ge.cl (G : Ge) (n : Nat) : Addr := G.c.f n
def tagOk (A : Al) (g : Option Tag) (a : Addr) : Prop := match g with
  | none => ∀ g, A g ≠ some a
  | some g => A g = some a
mutual
def rep (G : Ge) (A : Al) (F : Hp) : T → V → Prop
  | .non, v => v = .non
  | .bl b, v => v = .bl b
  | .int i, v => v = .int i
  | .str s, v => v = .str s
  | .lst g ts, v => ∃ a vs, v = .ref a ∧ F a = some (.lst vs) ∧ tagOk A g a ∧ reps G A F ts vs
  | .tup ts, v => ∃ a vs, v = .ref a ∧ SqT G.K F a vs ∧ reps G A F ts vs
  | .ro ts, v => ∃ a vs, v = .ref a ∧ SqL G.K F a vs ∧ reps G A F ts vs
  | .ins g c ns ts, v => ∃ a dx vs, v = .ref a ∧ F a = some (.ins (G.cl c) dx (ns.zip vs)) ∧ vs.length = ns.length ∧ tagOk A g a ∧ reps G A F ts vs
  | .exn c ns ts, v => ∃ a cls dx, G.c.xh = some (a, cls, dx) ∧ v = .ref a ∧ cls = .ref (G.cl c) ∧ ((ns = [] ∧ ts = [] ∧ dx = none) ∨ ∃ dd vs, dx = some dd ∧ F dd = some (.xd (ns.zip vs)) ∧ vs.length = ns.length ∧ reps G A F ts vs)
def reps (G : Ge) (A : Al) (F : Hp) : List T → List V → Prop
  | [], vs => vs = []
  | t :: ts, vs => ∃ v ws, vs = v :: ws ∧ rep G A F t v ∧ reps G A F ts ws
end
section
variable {G : Ge} {A : Al} {F F' H H' : Hp}
mutual
theorem rep.mono (e : Ex F F') : ∀ {t : T} {v : V}, rep G A F t v → rep G A F' t v
  | .non, _, h => h
  | .bl _, _, h => h
  | .int _, _, h => h
  | .str _, _, h => h
  | .lst _ _, _, ⟨a, vs, h1, h2, h3, h4⟩ => ⟨a, vs, h1, e _ _ h2, h3, reps.mono e h4⟩
  | .tup _, _, ⟨a, vs, h1, h2, h3⟩ => ⟨a, vs, h1, ex_t e h2, reps.mono e h3⟩
  | .ro _, _, ⟨a, vs, h1, h2, h3⟩ => ⟨a, vs, h1, ex_l e h2, reps.mono e h3⟩
  | .ins _ _ _ _, _, ⟨a, dx, vs, h1, h2, h3, h4, h5⟩ => ⟨a, dx, vs, h1, e _ _ h2, h3, h4, reps.mono e h5⟩
  | .exn _ _ _, _, ⟨a, cls, dx, h1, h2, h3, h4⟩ => ⟨a, cls, dx, h1, h2, h3, match h4 with
    | .inl z => .inl z
    | .inr ⟨dd, vs, k1, k2, k3, k4⟩ => .inr ⟨dd, vs, k1, e _ _ k2, k3, reps.mono e k4⟩⟩
theorem reps.mono (e : Ex F F') : ∀ {ts : List T} {vs : List V}, reps G A F ts vs → reps G A F' ts vs
  | [], _, h => h
  | _ :: _, _, ⟨v, ws, h1, h2, h3⟩ => ⟨v, ws, h1, rep.mono e h2, reps.mono e h3⟩
end
theorem reps.length : ∀ {ts : List T} {vs : List V}, reps G A F ts vs → vs.length = ts.length
  | [], vs, h => by
    have e : vs = [] := h
    rw [e] <;> rfl
  | _ :: _, _, ⟨v, ws, h1, h2, h3⟩ => by rw [h1, List.length_cons, List.length_cons, reps.length h3]
theorem reps.get : ∀ {ts : List T} {vs : List V} {i : Nat} {t : T}, reps G A F ts vs → ts[i]? = some t → ∃ v, vs[i]? = some v ∧ rep G A F t v
  | t :: ts, _, 0, u, ⟨v, ws, h1, h2, h3⟩, e => by
    rw [h1]
    have e' : t = u := Option.some.inj e
    subst e'
    exact ⟨v, rfl, h2⟩
  | t :: ts, _, i + 1, u, ⟨v, ws, h1, h2, h3⟩, e => by
    rw [h1]
    exact reps.get (i := i) h3 e
theorem reps.getV : ∀ {ts : List T} {vs : List V} {i : Nat} {v : V}, reps G A F ts vs → vs[i]? = some v → ∃ t, ts[i]? = some t ∧ rep G A F t v := fun {ts vs i v} h e => by
  have hi : i < ts.length := by
    rw [← h.length]
    exact (List.getElem?_eq_some_iff.mp e).1
  obtain ⟨v', e', r⟩ := h.get (List.getElem?_eq_getElem hi)
  rw [e] at e'
  cases e'
  exact ⟨_, List.getElem?_eq_getElem hi, r⟩
theorem reps.append : ∀ {ts us : List T} {vs ws : List V}, reps G A F ts vs → reps G A F us ws → reps G A F (ts ++ us) (vs ++ ws)
  | [], _, _, _, h, k => by rw [show _ = [] from h]; exact k
  | _ :: _, _, _, _, ⟨v, ws, h1, h2, h3⟩, k => by rw [h1]; exact ⟨v, _, rfl, h2, h3.append k⟩
theorem reps.one {t : T} {v : V} (h : rep G A F t v) : reps G A F [t] [v] := ⟨v, [], rfl, h, rfl⟩
theorem reps.set : ∀ {ts : List T} {vs : List V} (i : Nat) {t : T} {v : V}, reps G A F ts vs → rep G A F t v → reps G A F (ts.set i t) (vs.set i v)
  | [], _, _, _, _, h, _ => by rw [show _ = [] from h]; rfl
  | _ :: _, _, 0, _, _, ⟨v, ws, h1, h2, h3⟩, r => by rw [h1]; exact ⟨_, _, rfl, r, h3⟩
  | _ :: _, _, i + 1, _, _, ⟨v, ws, h1, h2, h3⟩, r => by rw [h1]; exact ⟨_, _, rfl, h2, reps.set i h3 r⟩
theorem reps.take : ∀ {ts : List T} {vs : List V} (n : Nat), reps G A F ts vs → reps G A F (ts.take n) (vs.take n)
  | _, _, 0, _ => rfl
  | [], _, n + 1, h => by rw [show _ = [] from h]; rfl
  | _ :: _, _, n + 1, ⟨v, ws, h1, h2, h3⟩ => by rw [h1]; exact ⟨_, _, rfl, h2, reps.take n h3⟩
theorem reps.drop : ∀ {ts : List T} {vs : List V} (n : Nat), reps G A F ts vs → reps G A F (ts.drop n) (vs.drop n)
  | _, _, 0, h => h
  | [], _, n + 1, h => by rw [show _ = [] from h]; rfl
  | _ :: _, _, n + 1, ⟨v, ws, h1, h2, h3⟩ => by rw [h1]; exact reps.drop n h3
theorem reps.reverse : ∀ {ts : List T} {vs : List V}, reps G A F ts vs → reps G A F ts.reverse vs.reverse
  | [], _, h => by rw [show _ = [] from h]; rfl
  | _ :: _, _, ⟨v, ws, h1, h2, h3⟩ => by
    rw [h1, List.reverse_cons, List.reverse_cons]
    exact (reps.reverse h3).append (reps.one h2)
theorem reps.of_get : ∀ {ts : List T} {vs : List V}, vs.length = ts.length → (∀ (i : Nat) (t : T) (v : V), ts[i]? = some t → vs[i]? = some v → rep G A F t v) → reps G A F ts vs
  | [], [], _, _ => rfl
  | [], _ :: _, h, _ => by simp at h
  | _ :: _, [], h, _ => by simp at h
  | t :: ts, v :: vs, h, k => ⟨v, vs, rfl, k 0 t v rfl rfl, reps.of_get (by simpa using h) fun i t v a b => k (i + 1) t v a b⟩

/-! ### heaps that grow: F the part that stays as it is, H all -/
structure Grow (F H F1 H1 : Hp) : Prop where
  ex : Ex F F1
  sub : Ex F1 H1
  keep : Ex H H1
  sep : ∀ a, F a = none → H a ≠ none → F1 a = none
theorem Grow.refl (e : Ex F H) : Grow F H F H := ⟨Ex.refl _, e, Ex.refl _, fun _ h _ => h⟩
theorem none_of_ex {F H : Hp} (e : Ex F H) {a : Addr} (h : H a = none) : F a = none := fresh_back e h
theorem Grow.trans {F1 H1 F2 H2 : Hp} (a : Grow F H F1 H1) (b : Grow F1 H1 F2 H2) : Grow F H F2 H2 :=
  ⟨a.ex.trans b.ex, b.sub, a.keep.trans b.keep, fun x h1 h2 => b.sep x (a.sep x h1 h2) fun z => h2 (none_of_ex a.keep z)⟩
theorem ex_upd {p : Addr} {o : HO} (e : Ex F H) : Ex (upd F p o) (upd H p o) := fun a u h => by
  by_cases hp : a = p
  · subst hp
    rw [upd_same] at h ⊢
    exact h
  · rw [upd_ne hp] at h ⊢
    exact e a u h
theorem Grow.new {p : Addr} {o : HO} (e : Ex F H) (h : H p = none) : Grow F H (upd F p o) (upd H p o) :=
  ⟨Ex.new (none_of_ex e h), ex_upd e, Ex.new h, fun a h1 h2 => by
    rw [upd_ne (fun z => h2 (by rw [z]; exact h))]
    exact h1⟩
/-- garbage: only H grows -/
theorem Grow.junk {p : Addr} {o : HO} (e : Ex F H) (h : H p = none) : Grow F H F (upd H p o) := ⟨Ex.refl _, e.trans (Ex.new h), Ex.new h, fun _ h1 _ => h1⟩

/-! ### frames -/
inductive Sl where
  | fz (t : T)
  | ol (ts : List T)
  | oi (c : Nat) (ns : List Str) (ts : List T)
abbrev Fv := List (Option Sl)
def rd (d i : Nat) (env : Fv) : Option T := match env[i]? with
  | some (some (.fz t)) => some t
  | some (some (.ol ts)) => some (.lst (some (d, i)) ts)
  | some (some (.oi c ns ts)) => some (.ins (some (d, i)) c ns ts)
  | _ => none
structure AOk (A : Al) (F : Hp) : Prop where
  inj : ∀ g g' a, A g = some a → A g' = some a → g = g'
  al : ∀ g a, A g = some a → F a ≠ none
theorem AOk.mono (h : AOk A F) (e : Ex F F') : AOk A F' := ⟨h.inj, fun g a q => by
  cases z : F a with
  | none => exact absurd z (h.al g a q)
  | some o => rw [e _ _ z]; exact fun y => nomatch y⟩
theorem AOk.new (h : AOk A F) {p : Addr} (hp : F p = none) : tagOk A none p := fun g q => h.al g p q hp
/-- what an expression sees -/
structure RE (G : Ge) (d : Nat) (A : Al) (env : Fv) (σ : L2.St) (F : Hp) : Prop where
  ok : AOk A F
  len : env.length = σ.length
  dep : ∀ g a, A g = some a → g.1 ≤ d
  slots : ∀ i t, rd d i env = some t → ∃ v, σ[i]? = some (some v) ∧ rep G A F t v
theorem RE.mono {d : Nat} {env : Fv} {σ : L2.St} (h : RE G d A env σ F) (e : Ex F F') : RE G d A env σ F' :=
  ⟨h.ok.mono e, h.len, h.dep, fun i t q => let ⟨v, a, b⟩ := h.slots i t q; ⟨v, a, b.mono e⟩⟩
/-- an exception: its class, its own dict -/
def xrep (G : Ge) (A : Al) (F : Hp) (e : Exn) (dx : Option Addr) : Prop :=
  (e.ns = [] ∧ e.ts = [] ∧ dx = none) ∨ ∃ d vs, dx = some d ∧ F d = some (.xd (e.ns.zip vs)) ∧ vs.length = e.ns.length ∧ reps G A F e.ts vs
theorem xrep.mono {e : Exn} {dx : Option Addr} (q : Ex F F') (h : xrep G A F e dx) : xrep G A F' e dx := by
  rcases h with h | ⟨d, vs, h1, h2, h3, h4⟩
  · exact .inl h
  · exact .inr ⟨d, vs, h1, q _ _ h2, h3, h4.mono q⟩
end

/-! ### what a reading gives -/
/-- E: what is wished of an exception -/
def Outg {α β : Type} (G : Ge) (A : Al) (F H : Hp) (R : Hp → α → β → Prop) (Q : β → Hp → Prop) (E : XK) : Res α → Prop
  | .ok r => ∀ b F1 H1, Grow F H F1 H1 → R F1 r b → Q b H1
  | .er e => ∀ dx F1 H1, Grow F H F1 H1 → xrep G A F1 e dx → E (.ref (G.cl e.c)) dx H1
  | .stuck => False
abbrev Out (G : Ge) (A : Al) (F H : Hp) (Q : VK) (E : XK) : Res T → Prop := Outg G A F H (rep G A) Q E
abbrev OutB (G : Ge) (A : Al) (F H : Hp) (Q : Bool → Hp → Prop) (E : XK) : Res Bool → Prop := Outg G A F H (fun _ (b c : Bool) => b = c) Q E
abbrev OutA (G : Ge) (A : Al) (F H : Hp) (Q : List V → Hp → Prop) (E : XK) : Res (List T) → Prop := Outg G A F H (reps G A) Q E
section
variable {G : Ge} {d : Nat} {W : WX} {A : Al} {F H F1 H1 : Hp} {Q : VK} {E : XK} {t : T}
theorem Out.here {v : V} (h : Out G A F H Q E (.ok t)) (e : Ex F H) (r : rep G A F t v) : Q v H := h v F H (Grow.refl e) r
theorem OutB.here {b : Bool} {Q : Bool → Hp → Prop} (h : OutB G A F H Q E (.ok b)) (e : Ex F H) : Q b H := h b F H (Grow.refl e) rfl
theorem OutA.here {ts : List T} {vs : List V} {Q : List V → Hp → Prop} (h : OutA G A F H Q E (.ok ts)) (e : Ex F H) (r : reps G A F ts vs) : Q vs H := h vs F H (Grow.refl e) r
/-- a step first -/
theorem Outg.step {α β : Type} {R : Hp → α → β → Prop} {Q : β → Hp → Prop} {m : Res α} (g : Grow F H F1 H1) (h : Outg G A F H R Q E m) : Outg G A F1 H1 R Q E m := by
  cases m with
  | ok r => exact fun v F2 H2 g2 r2 => h v F2 H2 (g.trans g2) r2
  | er e => exact fun dx F2 H2 g2 r2 => h dx F2 H2 (g.trans g2) r2
  | stuck => exact h
/-- one thing, then the rest -/
theorem Outg.bind {α β α' β' : Type} {R : Hp → α → β → Prop} {R' : Hp → α' → β' → Prop} {Q : β → Hp → Prop} {Q' : β' → Hp → Prop} {m : Res α} {k : α → Res α'} (o : Outg G A F H R' Q' E (m.bind k))
    (h : ∀ x b F1 H1, Grow F H F1 H1 → R F1 x b → Outg G A F1 H1 R' Q' E (k x) → Q b H1) : Outg G A F H R Q E m := by
  cases m with
  | ok x => exact fun b F1 H1 g r => h x b F1 H1 g r (Outg.step g o)
  | er e => exact o
  | stuck => exact o
def SE (G : Ge) (d : Nat) (W : WX) (te : TE) (p : Fv → Res T) : Prop :=
  ∀ A env σ F H Q, RE G d A env σ F → Ex F H → Out G A F H Q (WE W σ) (p env) → te σ H Q
def ST (G : Ge) (d : Nat) (W : WX) (tt : TT) (p : Fv → Res Bool) : Prop :=
  ∀ A env σ F H Q, RE G d A env σ F → Ex F H → OutB G A F H Q (WE W σ) (p env) → tt σ H Q
def SA (G : Ge) (d : Nat) (W : WX) (ta : TA) (p : Fv → Res (List T)) : Prop :=
  ∀ A env σ F H Q, RE G d A env σ F → Ex F H → OutA G A F H Q (WE W σ) (p env) → ta σ H Q
end
end Py

set_option Elab.async false
set_option linter.all false
set_option maxRecDepth 100000
set_option maxHeartbeats 4000000
namespace Py
open PySem L2 PySem.Spec PyProof.Rows Evl

/-! ### operations on trees -/
def mfit (i j : Int) : Bool := decide (i.natAbs.log2 + j.natAbs.log2 < 1000000)
theorem mfit_of {i j : Int} (a b : Nat) (ha : i.natAbs < 2 ^ a) (hb : j.natAbs < 2 ^ b) (h0 : 0 < a := by decide) (h1 : 0 < b := by decide) (h : a + b ≤ 1000000 := by decide) : mfit i j = true := decide_eq_true (wide_mul ha hb h0 h1 h)
def dfit (j : Int) : Bool := decide (j.natAbs.log2 < 9000)
theorem dfit_of {j : Int} (b : Nat) (hb : j.natAbs < 2 ^ b) (h0 : 0 < b := by decide) (h : b ≤ 9000 := by decide) : dfit j = true := decide_eq_true (Nat.lt_of_lt_of_le (PySem.Flt.log2_lt_of h0 hb) h)
def sfit (i : Int) : Bool := decide (i.natAbs < 2 ^ 64)
def lfit (n : Nat) : Bool := decide (n ≤ sizeLine)
theorem lfit_of {n : Nat} (h : n ≤ 10000000) : lfit n = true := decide_eq_true (Nat.le_trans h (by decide))
namespace T
def add : T → T → Option T
  | .int i, .int j => some (.int (i + j))
  | .str x, .str y => if lfit (x.length + y.length) = true then some (.str (x ++ y)) else none
  | .lst _ xs, .lst _ ys => if lfit (xs.length + ys.length) = true then some (.lst none (xs ++ ys)) else none
  | .tup (x :: xs), .tup ys => if lfit (xs.length + 1 + ys.length) = true then some (.tup (x :: xs ++ ys)) else none
  | _, _ => none
def sub : T → T → Option T
  | .int i, .int j => some (.int (i - j))
  | _, _ => none
def mul : T → T → Option T
  | .int i, .int j => if mfit i j = true then some (.int (i * j)) else none
  | .lst _ xs, .int k => if decide (-(2 ^ 63) ≤ k) && decide (k < 2 ^ 63) && lfit (xs.length * k.toNat) then some (.lst none (List.replicate k.toNat xs).flatten) else none
  | _, _ => none
def fdiv : T → T → Option T
  | .int i, .int j => if decide (0 < j) && dfit j then some (.int (i / j)) else none
  | _, _ => none
def mod : T → T → Option T
  | .int i, .int j => if decide (0 < j) then some (.int (i % j)) else none
  | _, _ => none
def pow : T → T → Option T
  | .int i, .int j => if decide (0 ≤ j) && decide (j ≤ 1000000) && sfit i then some (.int (i ^ j.toNat)) else none
  | _, _ => none
def shl : T → T → Option T
  | .int i, .int j => if decide (0 ≤ j) && decide (j ≤ 1000000) && sfit i then some (.int (i * 2 ^ j.toNat)) else none
  | _, _ => none
def shr : T → T → Option T
  | .int i, .int j => if decide (0 ≤ j) then some (.int (i / 2 ^ j.toNat)) else none
  | _, _ => none
def band : T → T → Option T
  | .int i, .int j => some (.int (Builtin.bitAnd i j))
  | _, _ => none
def bor : T → T → Option T
  | .int i, .int j => some (.int (Builtin.bitOr i j))
  | _, _ => none
def bxor : T → T → Option T
  | .int i, .int j => some (.int (Builtin.bitXor i j))
  | _, _ => none
def neg : T → Option T
  | .int i => some (.int (-i))
  | _ => none
def inv : T → Option T
  | .int i => some (.int (Builtin.bitNot i))
  | _ => none
/-! trees as data -/
mutual
def pd : T → Option PyData
  | .non => some .none
  | .bl b => some (.bool b)
  | .int i => some (.int i)
  | .str s => some (.str s)
  | .lst _ ts => (pds ts).map .list
  | .ro ts => (pds ts).map .list
  | .tup ts => (pds ts).map .tuple
  | .ins _ _ _ _ => none
  | .exn _ _ _ => none
def pds : List T → Option (List PyData)
  | [] => some []
  | t :: ts => match pd t, pds ts with
    | some d, some ds => some (d :: ds)
    | _, _ => none
end
def eq (x y : T) : Option T := match pd x, pd y with
  | some d, some e => if SeqAt.shaped d && SeqAt.shaped e then some (.bl (PyData.eqv d e)) else none
  | _, _ => none
def ne (x y : T) : Option T := match pd x, pd y with
  | some d, some e => if SeqAt.shaped d && SeqAt.shaped e then some (.bl (!PyData.eqv d e)) else none
  | _, _ => none
def lt : T → T → Option T
  | .int i, .int j => some (.bl (decide (i < j)))
  | .str x, .str y => some (.bl (decide (x.cps.toList < y.cps.toList)))
  | _, _ => none
def le : T → T → Option T
  | .int i, .int j => some (.bl (decide (i ≤ j)))
  | _, _ => none
def gt : T → T → Option T
  | .int i, .int j => some (.bl (decide (j < i)))
  | _, _ => none
def ge : T → T → Option T
  | .int i, .int j => some (.bl (decide (j ≤ i)))
  | _, _ => none
def nn : T → Bool
  | .non => true
  | _ => false
def isN (x y : T) : Option T := match y with
  | .non => some (.bl (nn x))
  | _ => none
def notN (x y : T) : Option T := match y with
  | .non => some (.bl (!nn x))
  | _ => none
def items : T → Option (List T)
  | .lst _ ts => some ts
  | .ro ts => some ts
  | .tup ts => some ts
  | _ => none
def fv : T → Option V
  | .non => some .non
  | .bl b => some (.bl b)
  | .int i => some (.int i)
  | .str s => some (.str s)
  | _ => none
def fvs : List T → Option (List V)
  | [] => some []
  | t :: ts => match fv t, fvs ts with
    | some v, some vs => some (v :: vs)
    | _, _ => none
def isIn (neg : Bool) (x y : T) : Option T := match fv x, items y with
  | some v, some ts => (match fvs ts with
    | some vs => some (.bl (if neg then !inV v vs else inV v vs))
    | none => none)
  | _, _ => none
def ix : T → T → Option T
  | .lst _ ts, .int i => atI ts i
  | .ro ts, .int i => atI ts i
  | .tup ts, .int i => atI ts i
  | .str z, .int i => if lfit z.length = true then (atI z.cps.toList i).map fun c => .str ⟨#[c]⟩ else none
  | _, _ => none
def tru : T → Option Bool
  | .non => some false
  | .bl b => some b
  | .int i => some (i != 0)
  | .str y => if lfit y.length = true then some ((y.length : Int) != 0) else none
  | .lst _ ts => some (!ts.isEmpty)
  | .ro ts => some (!ts.isEmpty)
  | .tup ts => some (!ts.isEmpty)
  | .ins _ _ _ _ => none
  | .exn _ _ _ => none
def boo : T → Option Bool
  | .bl b => some b
  | _ => none
end T

/-! ### operators -/
section
variable {G : Ge} {A : Al} {F H F1 H1 : Hp} {Q : VK} {E : XK} {x y t : T} {v w : V} {i j : Int}
def OpS (G : Ge) (r : R2) (f : T → T → Option T) : Prop :=
  ∀ A F H Q E x y v w, AOk A F → Ex F H → rep G A F x v → rep G A F y w → Out G A F H Q E (.of (f x y)) → r v w H Q
def UnS (G : Ge) (r : V → Hp → VK → Prop) (f : T → Option T) : Prop :=
  ∀ A F H Q E x v, AOk A F → Ex F H → rep G A F x v → Out G A F H Q E (.of (f x)) → r v H Q
theorem Out.lst {ts : List T} {vs : List V} (h : Out G A F H Q E (.ok (.lst none ts))) (ok : AOk A F) (e : Ex F H) (r : reps G A F ts vs) : ∀ p, H p = none → Q (.ref p) (upd H p (.lst vs)) := fun p hp =>
  have hf := none_of_ex e hp
  h _ _ _ (Grow.new e hp) ⟨p, vs, rfl, upd_same, ok.new hf, r.mono (Ex.new hf)⟩
theorem Out.tup {ts : List T} {vs : List V} (h : Out G A F H Q E (.ok (.tup ts))) (e : Ex F H) (r : reps G A F ts vs) : ∀ p, H p = none → Q (.ref p) (upd H p (.tup vs)) := fun p hp =>
  have hf := none_of_ex e hp
  h _ _ _ (Grow.new e hp) ⟨p, vs, rfl, SqT.of upd_same, r.mono (Ex.new hf)⟩
theorem Out.flat {v : V} (h : Out G A F H Q E (.ok t)) (e : Ex F H) (r : rep G A F t v) : Q v H := h.here e r

theorem opS_or {r r' : R2} {f g k : T → T → Option T} (h : OpS G r f) (h' : OpS G r' g) (hk : ∀ x y, k x y = (f x y).or (g x y)) : OpS G (fun x y H Q => r x y H Q ∨ r' x y H Q) k := fun A F H Q E x y v w ok e rx ry o => by
  rw [hk] at o
  cases q : f x y with
  | some t =>
    rw [q] at o
    exact .inl (h A F H Q E x y v w ok e rx ry (by rw [q]; exact o))
  | none =>
    rw [q] at o
    exact .inr (h' A F H Q E x y v w ok e rx ry o)
def OpD (X : Cx) (cl : Cl) (f : Value → Value → Sem Value) (g : T → T → Option T) : Prop := ∃ r, OpR X f r ∧ OpS ⟨X.K, cl⟩ r g
end
section
variable {X : Cx} {cl : Cl}
theorem OpD.or {f : Value → Value → Sem Value} {g g' k : T → T → Option T} (h : OpD X cl f g) (h' : OpD X cl f g') (hk : ∀ x y, k x y = (g x y).or (g' x y)) : OpD X cl f k := by
  obtain ⟨r, a, b⟩ := h
  obtain ⟨r', a', b'⟩ := h'
  exact ⟨_, a.or a', opS_or b b' hk⟩
/-- int operators -/
theorem opD_I {C : Int → Int → Prop} {g : Int → Int → V} {gt : Int → Int → T} {f : Value → Value → Sem Value} {k : T → T → Option T} (h : OpR X f (rI C g)) (hg : ∀ (G : Ge) A F i j, rep G A F (gt i j) (g i j))
    (hk : ∀ x y t, k x y = some t → ∃ i j, x = .int i ∧ y = .int j ∧ C i j ∧ t = gt i j) : OpD X cl f k := ⟨_, h, fun A F H Q E x y v w ok e rx ry o => by
  cases q : k x y with
  | none => rw [q] at o; exact o.elim
  | some t =>
    obtain ⟨i, j, rfl, rfl, c, rfl⟩ := hk x y t q
    rw [q] at o
    cases rx
    cases ry
    exact ⟨i, j, rfl, rfl, c, Out.here o e (hg _ A F i j)⟩⟩
theorem opD_I0 {g : Int → Int → V} {gt : Int → Int → T} {f : Value → Value → Sem Value} {k : T → T → Option T} (h : OpR X f (rI0 g)) (hg : ∀ (G : Ge) A F i j, rep G A F (gt i j) (g i j))
    (hk : ∀ x y t, k x y = some t → ∃ i j, x = .int i ∧ y = .int j ∧ t = gt i j) : OpD X cl f k := ⟨_, h, fun A F H Q E x y v w ok e rx ry o => by
  cases q : k x y with
  | none => rw [q] at o; exact o.elim
  | some t =>
    obtain ⟨i, j, rfl, rfl, rfl⟩ := hk x y t q
    rw [q] at o
    cases rx
    cases ry
    exact ⟨i, j, rfl, rfl, Out.here o e (hg _ A F i j)⟩⟩
/-- two ints -/
def T.i2 (f : Int → Int → Option T) : T → T → Option T
  | .int i, .int j => f i j
  | _, _ => none
theorem T.i2_some {f : Int → Int → Option T} {x y t : T} (h : T.i2 f x y = some t) : ∃ i j, x = .int i ∧ y = .int j ∧ f i j = some t := by
  cases x <;> cases y <;> first | exact ⟨_, _, rfl, rfl, h⟩ | cases h
theorem if_some {c : Prop} [Decidable c] {t u : T} (h : (if c then some t else none) = some u) : c ∧ u = t := by
  by_cases q : c
  · rw [if_pos q] at h
    cases h
    exact ⟨q, rfl⟩
  · rw [if_neg q] at h
    cases h
theorem band {a b : Bool} (h : (a && b) = true) : a = true ∧ b = true := Bool.and_eq_true_iff.mp h
theorem opD_sub : OpD X cl (binaryOp .Sub) T.sub := opD_I0 (gt := fun i j => .int (i - j)) op_sub (fun _ _ _ _ _ => rfl) fun x y t h => by
  cases x <;> cases y <;> cases h <;> exact ⟨_, _, rfl, rfl, rfl⟩
theorem opD_band : OpD X cl (binaryOp .BitAnd) T.band := opD_I0 (gt := fun i j => .int (Builtin.bitAnd i j)) op_and (fun _ _ _ _ _ => rfl) fun x y t h => by
  cases x <;> cases y <;> cases h <;> exact ⟨_, _, rfl, rfl, rfl⟩
theorem opD_bor : OpD X cl (binaryOp .BitOr) T.bor := opD_I0 (gt := fun i j => .int (Builtin.bitOr i j)) op_or (fun _ _ _ _ _ => rfl) fun x y t h => by
  cases x <;> cases y <;> cases h <;> exact ⟨_, _, rfl, rfl, rfl⟩
theorem opD_bxor : OpD X cl (binaryOp .BitXor) T.bxor := opD_I0 (gt := fun i j => .int (Builtin.bitXor i j)) op_xor (fun _ _ _ _ _ => rfl) fun x y t h => by
  cases x <;> cases y <;> cases h <;> exact ⟨_, _, rfl, rfl, rfl⟩
theorem opD_fdiv : OpD X cl (binaryOp .FloorDiv) T.fdiv := opD_I (gt := fun i j => .int (i / j)) op_fdivW (fun _ _ _ _ _ => rfl) fun x y t h => by
  obtain ⟨i, j, rfl, rfl, h⟩ := T.i2_some (f := fun i j => if decide (0 < j) && dfit j then some (.int (i / j)) else none) (x := x) (y := y) (t := t) (by cases x <;> cases y <;> exact h)
  obtain ⟨c, rfl⟩ := if_some h
  obtain ⟨c1, c2⟩ := band c
  exact ⟨_, _, rfl, rfl, ⟨of_decide_eq_true c1, of_decide_eq_true c2⟩, rfl⟩
theorem opD_mod : OpD X cl (binaryOp .Mod) T.mod := opD_I (gt := fun i j => .int (i % j)) op_mod (fun _ _ _ _ _ => rfl) fun x y t h => by
  obtain ⟨i, j, rfl, rfl, h⟩ := T.i2_some (f := fun i j => if decide (0 < j) then some (.int (i % j)) else none) (x := x) (y := y) (t := t) (by cases x <;> cases y <;> exact h)
  obtain ⟨c, rfl⟩ := if_some h
  exact ⟨_, _, rfl, rfl, of_decide_eq_true c, rfl⟩
theorem opD_pow : OpD X cl (binaryOp .Pow) T.pow := opD_I (gt := fun i j => .int (i ^ j.toNat)) op_pow (fun _ _ _ _ _ => rfl) fun x y t h => by
  obtain ⟨i, j, rfl, rfl, h⟩ := T.i2_some (f := fun i j => if decide (0 ≤ j) && decide (j ≤ 1000000) && sfit i then some (.int (i ^ j.toNat)) else none) (x := x) (y := y) (t := t) (by cases x <;> cases y <;> exact h)
  obtain ⟨c, rfl⟩ := if_some h
  obtain ⟨c, c3⟩ := band c
  obtain ⟨c1, c2⟩ := band c
  exact ⟨_, _, rfl, rfl, ⟨of_decide_eq_true c1, of_decide_eq_true c2, of_decide_eq_true c3⟩, rfl⟩
theorem opD_shl : OpD X cl (binaryOp .LShift) T.shl := opD_I (gt := fun i j => .int (i * 2 ^ j.toNat)) op_shl (fun _ _ _ _ _ => rfl) fun x y t h => by
  obtain ⟨i, j, rfl, rfl, h⟩ := T.i2_some (f := fun i j => if decide (0 ≤ j) && decide (j ≤ 1000000) && sfit i then some (.int (i * 2 ^ j.toNat)) else none) (x := x) (y := y) (t := t) (by cases x <;> cases y <;> exact h)
  obtain ⟨c, rfl⟩ := if_some h
  obtain ⟨c, c3⟩ := band c
  obtain ⟨c1, c2⟩ := band c
  exact ⟨_, _, rfl, rfl, ⟨of_decide_eq_true c1, of_decide_eq_true c2, of_decide_eq_true c3⟩, rfl⟩
theorem opD_shr : OpD X cl (binaryOp .RShift) T.shr := opD_I (gt := fun i j => .int (i / 2 ^ j.toNat)) op_shr (fun _ _ _ _ _ => rfl) fun x y t h => by
  obtain ⟨i, j, rfl, rfl, h⟩ := T.i2_some (f := fun i j => if decide (0 ≤ j) then some (.int (i / 2 ^ j.toNat)) else none) (x := x) (y := y) (t := t) (by cases x <;> cases y <;> exact h)
  obtain ⟨c, rfl⟩ := if_some h
  exact ⟨_, _, rfl, rfl, of_decide_eq_true c, rfl⟩
/-- + of ints, texts, lists, tuples -/
def T.addI : T → T → Option T
  | .int i, .int j => some (.int (i + j))
  | _, _ => none
def T.addS : T → T → Option T
  | .str x, .str y => if lfit (x.length + y.length) = true then some (.str (x ++ y)) else none
  | _, _ => none
def T.addL : T → T → Option T
  | .lst _ xs, .lst _ ys => if lfit (xs.length + ys.length) = true then some (.lst none (xs ++ ys)) else none
  | _, _ => none
def T.addT : T → T → Option T
  | .tup (x :: xs), .tup ys => if lfit (xs.length + 1 + ys.length) = true then some (.tup (x :: xs ++ ys)) else none
  | _, _ => none
theorem opD_addI : OpD X cl (binaryOp .Add) T.addI := opD_I0 (gt := fun i j => .int (i + j)) op_add (fun _ _ _ _ _ => rfl) fun x y t h => by
  cases x <;> cases y <;> cases h <;> exact ⟨_, _, rfl, rfl, rfl⟩
theorem opD_addS : OpD X cl (binaryOp .Add) T.addS := ⟨_, op_add_str, fun A F H Q E x y v w ok e rx ry o => by
  cases x <;> cases y <;> (try exact o.elim)
  rename_i a b
  cases rx
  cases ry
  by_cases c : lfit (a.length + b.length) = true
  · have o' : Out _ A F H Q E (.of (if lfit (a.length + b.length) = true then some (.str (a ++ b)) else none)) := o
    rw [if_pos c] at o'
    exact ⟨a, b, rfl, rfl, of_decide_eq_true c, Out.here o' e rfl⟩
  · have o' : Out _ A F H Q E (.of (if lfit (a.length + b.length) = true then some (.str (a ++ b)) else none)) := o
    rw [if_neg c] at o'
    exact o'.elim⟩
theorem opD_addL : OpD X cl (binaryOp .Add) T.addL := ⟨_, op_cat, fun A F H Q E x y v w ok e rx ry o => by
  cases x <;> cases y <;> (try exact o.elim)
  rename_i g1 xs g2 ys
  have o' : Out _ A F H Q E (.of (if lfit (xs.length + ys.length) = true then some (.lst none (xs ++ ys)) else none)) := o
  obtain ⟨a, vs, rfl, h1, h2, h3⟩ := rx
  obtain ⟨b, ws, rfl, k1, k2, k3⟩ := ry
  by_cases c : lfit (xs.length + ys.length) = true
  · rw [if_pos c] at o'
    refine ⟨a, b, vs, ws, rfl, rfl, e _ _ h1, e _ _ k1, ?_, Out.lst o' ok e (h3.append k3)⟩
    rw [h3.length, k3.length]
    exact of_decide_eq_true c
  · rw [if_neg c] at o'
    exact o'.elim⟩
theorem opD_addT : OpD X cl (binaryOp .Add) T.addT := ⟨_, op_catT, fun A F H Q E x y v w ok e rx ry o => by
  cases x with
  | tup xs =>
    cases xs with
    | nil => exact o.elim
    | cons x xs =>
      cases y with
      | tup ys =>
        have o' : Out _ A F H Q E (.of (if lfit (xs.length + 1 + ys.length) = true then some (.tup (x :: xs ++ ys)) else none)) := o
        obtain ⟨a, vs, rfl, h1, h3⟩ := rx
        obtain ⟨b, ws, rfl, k1, k3⟩ := ry
        have l1 := h3.length
        have l2 := k3.length
        rw [List.length_cons] at l1
        by_cases c : lfit (xs.length + 1 + ys.length) = true
        · rw [if_pos c] at o'
          refine ⟨a, b, vs, ws, rfl, rfl, ex_t e h1, ex_t e k1, (fun z => by rw [z] at l1; cases l1), (by rw [l1, l2]; exact of_decide_eq_true c), fun z => ?_, fun _ => Out.tup o' e (h3.append k3)⟩
          subst z
          cases ys with
          | cons _ _ => cases l2
          | nil => exact Out.here o' e ⟨a, vs, rfl, h1, by rw [List.append_nil]; exact h3⟩
        · rw [if_neg c] at o'
          exact o'.elim
      | _ => exact o.elim
  | _ => exact o.elim⟩
theorem opD_add : OpD X cl (binaryOp .Add) T.add := ((opD_addI.or opD_addS (k := fun x y => (T.addI x y).or (T.addS x y)) fun _ _ => rfl).or (opD_addL.or opD_addT (k := fun x y => (T.addL x y).or (T.addT x y)) fun _ _ => rfl)) fun x y => by
  cases x with
  | tup xs => cases xs <;> cases y <;> first | rfl | simp only [T.add, T.addI, T.addS, T.addL, T.addT, Option.none_or, Option.or_none]
  | _ => cases y <;> first | rfl | simp only [T.add, T.addI, T.addS, T.addL, T.addT, Option.none_or, Option.or_none]
def T.mulI : T → T → Option T
  | .int i, .int j => if mfit i j = true then some (.int (i * j)) else none
  | _, _ => none
def T.mulL : T → T → Option T
  | .lst _ xs, .int k => if decide (-(2 ^ 63) ≤ k) && decide (k < 2 ^ 63) && lfit (xs.length * k.toNat) then some (.lst none (List.replicate k.toNat xs).flatten) else none
  | _, _ => none
theorem opD_mulI : OpD X cl (binaryOp .Mult) T.mulI := opD_I (gt := fun i j => .int (i * j)) op_mulW (fun _ _ _ _ _ => rfl) fun x y t h => by
  obtain ⟨i, j, rfl, rfl, h⟩ := T.i2_some (f := fun i j => if mfit i j = true then some (.int (i * j)) else none) (x := x) (y := y) (t := t) (by cases x <;> cases y <;> exact h)
  obtain ⟨c, rfl⟩ := if_some h
  exact ⟨_, _, rfl, rfl, (show i.natAbs.log2 + j.natAbs.log2 < 1000000 from of_decide_eq_true c), rfl⟩
theorem reps.flat {G : Ge} {A : Al} {F : Hp} {ts : List T} {vs : List V} (h : reps G A F ts vs) : ∀ n : Nat, reps G A F (List.replicate n ts).flatten (List.replicate n vs).flatten
  | 0 => rfl
  | n + 1 => by
    rw [List.replicate_succ, List.replicate_succ, List.flatten_cons, List.flatten_cons]
    exact h.append (reps.flat h n)
theorem opD_mulL : OpD X cl (binaryOp .Mult) T.mulL := ⟨_, op_rep, fun A F H Q E x y v w ok e rx ry o => by
  cases x <;> cases y <;> (try exact o.elim)
  rename_i g xs k
  have o' : Out _ A F H Q E (.of (if decide (-(2 ^ 63) ≤ k) && decide (k < 2 ^ 63) && lfit (xs.length * k.toNat) then some (.lst none (List.replicate k.toNat xs).flatten) else none)) := o
  obtain ⟨a, vs, rfl, h1, h2, h3⟩ := rx
  cases ry
  by_cases c : (decide (-(2 ^ 63) ≤ k) && decide (k < 2 ^ 63) && lfit (xs.length * k.toNat)) = true
  · rw [if_pos c] at o'
    obtain ⟨c, c3⟩ := band c
    obtain ⟨c1, c2⟩ := band c
    exact ⟨a, k, vs, rfl, rfl, e _ _ h1, of_decide_eq_true c1, of_decide_eq_true c2, (by rw [h3.length]; exact of_decide_eq_true c3), Out.lst o' ok e (h3.flat _)⟩
  · rw [if_neg c] at o'
    exact o'.elim⟩
theorem opD_mul : OpD X cl (binaryOp .Mult) T.mul := opD_mulI.or opD_mulL fun x y => by
  cases x <;> cases y <;> (try rfl)
  simp only [T.mul, T.mulI, T.mulL, Option.or_none]

/-! ### comparisons -/
section
variable {G : Ge} {A : Al} {F : Hp}
mutual
theorem dp_of : ∀ {t : T} {v : V} {d : PyData}, rep G A F t v → T.pd t = some d → Dp G.K F v d
  | .non, v, d, h, e => by cases h; cases e; exact .non
  | .bl b, v, d, h, e => by cases h; cases e; exact .bl b
  | .int i, v, d, h, e => by cases h; cases e; exact .int i
  | .str s, v, d, h, e => by cases h; cases e; exact .str s
  | .lst g ts, v, d, ⟨a, vs, h1, h2, h3, h4⟩, e => by
    obtain ⟨ds, e1, e2⟩ := Option.map_eq_some_iff.mp (show (T.pds ts).map PyData.list = some d from e)
    subst e2 h1
    exact .lst (SqL.of h2) (dps_of h4 e1)
  | .ro ts, v, d, ⟨a, vs, h1, h2, h4⟩, e => by
    obtain ⟨ds, e1, e2⟩ := Option.map_eq_some_iff.mp (show (T.pds ts).map PyData.list = some d from e)
    subst e2 h1
    exact .lst h2 (dps_of h4 e1)
  | .tup ts, v, d, ⟨a, vs, h1, h2, h4⟩, e => by
    obtain ⟨ds, e1, e2⟩ := Option.map_eq_some_iff.mp (show (T.pds ts).map PyData.tuple = some d from e)
    subst e2 h1
    exact .tup h2 (dps_of h4 e1)
  | .ins _ _ _ _, v, d, h, e => by cases e
  | .exn _ _ _, v, d, h, e => by cases e
theorem dps_of : ∀ {ts : List T} {vs : List V} {ds : List PyData}, reps G A F ts vs → T.pds ts = some ds → DpAll G.K F vs ds
  | [], vs, ds, h, e => by
    have h' : vs = [] := h
    subst h'
    cases e
    exact .nil
  | t :: ts, vs, ds, ⟨v, ws, h1, h2, h3⟩, e => by
    have e' : (match T.pd t, T.pds ts with | some d, some ds => some (d :: ds) | _, _ => none) = some ds := e
    cases q : T.pd t with
    | none => rw [q] at e'; cases e'
    | some d =>
      cases q2 : T.pds ts with
      | none => rw [q, q2] at e'; cases e'
      | some ds2 =>
        rw [q, q2] at e'
        cases e'
        subst h1
        exact .cons (dp_of h2 q) (dps_of h3 q2)
end
mutual
theorem dp_mono {K : PySem.W.Frag} {F H : Hp} (e : Ex F H) : ∀ {v : V} {d : PyData}, Dp K F v d → Dp K H v d
  | _, _, .non => .non
  | _, _, .bl b => .bl b
  | _, _, .int b => .int b
  | _, _, .str b => .str b
  | _, _, .lst h k => .lst (ex_l e h) (dps_mono e k)
  | _, _, .tup h k => .tup (ex_t e h) (dps_mono e k)
theorem dps_mono {K : PySem.W.Frag} {F H : Hp} (e : Ex F H) : ∀ {vs : List V} {ds : List PyData}, DpAll K F vs ds → DpAll K H vs ds
  | _, _, .nil => .nil
  | _, _, .cons h k => .cons (dp_mono e h) (dps_mono e k)
end
end
theorem opD_eq (hu : X.A.units + 64 < cLine) : OpD X cl (compareOp .Eq) T.eq := ⟨_, op_eqD hu, fun A F H Q E x y v w ok e rx ry o => by
  unfold T.eq at o
  cases q1 : T.pd x with
  | none => rw [q1] at o; exact o.elim
  | some d =>
    cases q2 : T.pd y with
    | none => rw [q1, q2] at o; exact o.elim
    | some d2 =>
      rw [q1, q2] at o
      by_cases c : (SeqAt.shaped d && SeqAt.shaped d2) = true
      · have o' : Out _ A F H Q E (.of (if (SeqAt.shaped d && SeqAt.shaped d2) = true then some (.bl (PyData.eqv d d2)) else none)) := o
        rw [if_pos c] at o'
        exact ⟨d, d2, dp_mono e (dp_of rx q1), dp_mono e (dp_of ry q2), (band c).1, (band c).2, Out.here o' e rfl⟩
      · have o' : Out _ A F H Q E (.of (if (SeqAt.shaped d && SeqAt.shaped d2) = true then some (.bl (PyData.eqv d d2)) else none)) := o
        rw [if_neg c] at o'
        exact o'.elim⟩
theorem opD_ne (hu : X.A.units + 64 < cLine) : OpD X cl (compareOp .NotEq) T.ne := ⟨_, op_neD hu, fun A F H Q E x y v w ok e rx ry o => by
  unfold T.ne at o
  cases q1 : T.pd x with
  | none => rw [q1] at o; exact o.elim
  | some d =>
    cases q2 : T.pd y with
    | none => rw [q1, q2] at o; exact o.elim
    | some d2 =>
      rw [q1, q2] at o
      by_cases c : (SeqAt.shaped d && SeqAt.shaped d2) = true
      · have o' : Out _ A F H Q E (.of (if (SeqAt.shaped d && SeqAt.shaped d2) = true then some (.bl (!PyData.eqv d d2)) else none)) := o
        rw [if_pos c] at o'
        exact ⟨d, d2, dp_mono e (dp_of rx q1), dp_mono e (dp_of ry q2), (band c).1, (band c).2, Out.here o' e rfl⟩
      · have o' : Out _ A F H Q E (.of (if (SeqAt.shaped d && SeqAt.shaped d2) = true then some (.bl (!PyData.eqv d d2)) else none)) := o
        rw [if_neg c] at o'
        exact o'.elim⟩
theorem opD_lt : OpD X cl (compareOp .Lt) T.lt := ⟨_, op_lt.or op_lt_str, fun A F H Q E x y v w ok e rx ry o => by
  cases x <;> cases y <;> (try exact o.elim)
  · cases rx; cases ry
    exact .inl ⟨_, _, rfl, rfl, Out.here o e rfl⟩
  · cases rx; cases ry
    exact .inr ⟨_, _, rfl, rfl, Out.here o e rfl⟩⟩
theorem opD_le : OpD X cl (compareOp .LtE) T.le := opD_I0 (gt := fun i j => .bl (decide (i ≤ j))) op_le (fun _ _ _ _ _ => rfl) fun x y t h => by
  cases x <;> cases y <;> cases h <;> exact ⟨_, _, rfl, rfl, rfl⟩
theorem opD_gt : OpD X cl (compareOp .Gt) T.gt := opD_I0 (gt := fun i j => .bl (decide (j < i))) op_gt (fun _ _ _ _ _ => rfl) fun x y t h => by
  cases x <;> cases y <;> cases h <;> exact ⟨_, _, rfl, rfl, rfl⟩
theorem opD_ge : OpD X cl (compareOp .GtE) T.ge := opD_I0 (gt := fun i j => .bl (decide (j ≤ i))) op_ge (fun _ _ _ _ _ => rfl) fun x y t h => by
  cases x <;> cases y <;> cases h <;> exact ⟨_, _, rfl, rfl, rfl⟩
theorem isnon {G : Ge} {A : Al} {F : Hp} {x : T} {v : V} (h : rep G A F x v) : decide (v = .non) = T.nn x := by
  cases x with
  | non => cases h; rfl
  | bl b => cases h; rfl
  | int b => cases h; rfl
  | str b => cases h; rfl
  | lst g ts => obtain ⟨a, vs, rfl, _⟩ := h; rfl
  | tup ts => obtain ⟨a, vs, rfl, _⟩ := h; rfl
  | ro ts => obtain ⟨a, vs, rfl, _⟩ := h; rfl
  | ins g c ns ts => obtain ⟨a, dx, vs, rfl, _⟩ := h; rfl
  | exn c ns ts => obtain ⟨a, cls, dx, _, rfl, _⟩ := h; rfl
theorem opD_isN : OpD X cl (compareOp .Is) T.isN := ⟨_, op_isN, fun A F H Q E x y v w ok e rx ry o => by
  cases y <;> (try exact o.elim)
  cases ry
  have o' : Out _ A F H Q E (.ok (.bl (T.nn x))) := o
  exact ⟨rfl, by rw [isnon rx]; exact Out.here o' e rfl⟩⟩
theorem opD_notN : OpD X cl (compareOp .IsNot) T.notN := ⟨_, op_notN, fun A F H Q E x y v w ok e rx ry o => by
  cases y <;> (try exact o.elim)
  cases ry
  have o' : Out _ A F H Q E (.ok (.bl (!T.nn x))) := o
  exact ⟨rfl, by rw [isnon rx]; exact Out.here o' e rfl⟩⟩
section
variable {G : Ge} {A : Al} {F : Hp}
theorem fv_of : ∀ {t : T} {v u : V}, rep G A F t v → T.fv t = some u → v = u ∧ flatV v = true
  | .non, _, _, h, e => by cases h; cases e; exact ⟨rfl, rfl⟩
  | .bl _, _, _, h, e => by cases h; cases e; exact ⟨rfl, rfl⟩
  | .int _, _, _, h, e => by cases h; cases e; exact ⟨rfl, rfl⟩
  | .str _, _, _, h, e => by cases h; cases e; exact ⟨rfl, rfl⟩
  | .lst _ _, _, _, _, e => by cases e
  | .ro _, _, _, _, e => by cases e
  | .tup _, _, _, _, e => by cases e
  | .ins _ _ _ _, _, _, _, e => by cases e
  | .exn _ _ _, _, _, _, e => by cases e
theorem fvs_of : ∀ {ts : List T} {vs us : List V}, reps G A F ts vs → T.fvs ts = some us → vs = us ∧ vs.all flatV = true
  | [], vs, us, h, e => by
    have h' : vs = [] := h
    subst h'
    cases e
    exact ⟨rfl, rfl⟩
  | t :: ts, vs, us, ⟨v, ws, h1, h2, h3⟩, e => by
    have e' : (match T.fv t, T.fvs ts with | some d, some ds => some (d :: ds) | _, _ => none) = some us := e
    cases q : T.fv t with
    | none => rw [q] at e'; cases e'
    | some d =>
      cases q2 : T.fvs ts with
      | none => rw [q, q2] at e'; cases e'
      | some ds2 =>
        rw [q, q2] at e'
        cases e'
        subst h1
        obtain ⟨a1, a2⟩ := fv_of h2 q
        obtain ⟨b1, b2⟩ := fvs_of h3 q2
        subst a1 b1
        exact ⟨rfl, by rw [List.all_cons, a2, b2] <;> rfl⟩
theorem items_of {t : T} {v : V} {ts : List T} (h : rep G A F t v) (e : T.items t = some ts) : ∃ a vs, v = .ref a ∧ (SqL G.K F a vs ∨ SqT G.K F a vs) ∧ reps G A F ts vs := by
  cases t <;> (try cases e)
  · obtain ⟨a, vs, rfl, h2, h3, h4⟩ := h
    exact ⟨a, vs, rfl, .inl (SqL.of h2), h4⟩
  · obtain ⟨a, vs, rfl, h2, h4⟩ := h
    exact ⟨a, vs, rfl, .inr h2, h4⟩
  · obtain ⟨a, vs, rfl, h2, h4⟩ := h
    exact ⟨a, vs, rfl, .inl h2, h4⟩
end
theorem sq_mono {K : PySem.W.Frag} {F H : Hp} {a : Addr} {vs : List V} (e : Ex F H) (h : SqL K F a vs ∨ SqT K F a vs) : SqL K H a vs ∨ SqT K H a vs := h.imp (ex_l e) (ex_t e)
theorem opD_in : OpD X cl (compareOp .In) (T.isIn false) := ⟨_, op_in_seq, fun A F H Q E x y v w ok e rx ry o => by
  unfold T.isIn at o
  cases q1 : T.fv x with
  | none => rw [q1] at o; exact o.elim
  | some u =>
    cases q2 : T.items y with
    | none => rw [q1, q2] at o; exact o.elim
    | some ts =>
      cases q3 : T.fvs ts with
      | none =>
        rw [q1, q2] at o
        simp only [q3] at o
        exact o.elim
      | some us =>
        rw [q1, q2] at o
        simp only [q3] at o
        obtain ⟨rfl, f1⟩ := fv_of rx q1
        obtain ⟨a, vs, rfl, s, r⟩ := items_of ry q2
        obtain ⟨rfl, f2⟩ := fvs_of r q3
        exact ⟨a, _, rfl, sq_mono e s, f1, f2, Out.here o e rfl⟩⟩
theorem opD_notIn : OpD X cl (compareOp .NotIn) (T.isIn true) := ⟨_, op_notIn_seq, fun A F H Q E x y v w ok e rx ry o => by
  unfold T.isIn at o
  cases q1 : T.fv x with
  | none => rw [q1] at o; exact o.elim
  | some u =>
    cases q2 : T.items y with
    | none => rw [q1, q2] at o; exact o.elim
    | some ts =>
      cases q3 : T.fvs ts with
      | none =>
        rw [q1, q2] at o
        simp only [q3] at o
        exact o.elim
      | some us =>
        rw [q1, q2] at o
        simp only [q3] at o
        obtain ⟨rfl, f1⟩ := fv_of rx q1
        obtain ⟨a, vs, rfl, s, r⟩ := items_of ry q2
        obtain ⟨rfl, f2⟩ := fvs_of r q3
        exact ⟨a, _, rfl, sq_mono e s, f1, f2, Out.here o e rfl⟩⟩
/-! ### a place -/
def IxD (X : Cx) (cl : Cl) (g : T → T → Option T) : Prop := ∃ r, IxR X r ∧ OpS ⟨X.K, cl⟩ r g
theorem reps.at {G : Ge} {A : Al} {F : Hp} {ts : List T} {vs : List V} {i : Int} {t : T} (h : reps G A F ts vs) (e : atI ts i = some t) : ∃ v, atI vs i = some v ∧ rep G A F t v := by
  unfold atI at e ⊢
  rw [h.length]
  cases q : ixN ts.length i with
  | none => rw [q] at e; cases e
  | some j =>
    rw [q] at e
    obtain ⟨v, e2, r⟩ := h.get (i := j) e
    exact ⟨v, e2, r⟩
theorem ixD : IxD X cl T.ix := ⟨_, ix_seq, fun A F H Q E x y v w ok e rx ry o => by
  cases x <;> (try exact o.elim)
  · -- a text
    rename_i z
    cases y <;> (try exact o.elim)
    cases rx; cases ry
    rename_i i
    have o' : Out _ A F H Q E (.of (if lfit z.length = true then (atI z.cps.toList i).map fun c => .str ⟨#[c]⟩ else none)) := o
    by_cases c : lfit z.length = true
    · rw [if_pos c] at o'
      cases q : atI z.cps.toList i with
      | none => rw [q] at o'; exact o'.elim
      | some k =>
        rw [q] at o'
        exact .inr (.inr ⟨z, i, k, rfl, rfl, of_decide_eq_true c, q, Out.here o' e rfl⟩)
    · rw [if_neg c] at o'
      exact o'.elim
  · rename_i g ts
    cases y <;> (try exact o.elim)
    cases ry
    rename_i i
    obtain ⟨a, vs, rfl, h2, h3, h4⟩ := rx
    have o' : Out _ A F H Q E (.of (atI ts i)) := o
    cases q : atI ts i with
    | none => rw [q] at o'; exact o'.elim
    | some t =>
      rw [q] at o'
      obtain ⟨u, e2, r⟩ := h4.at q
      exact .inl ⟨a, vs, i, u, rfl, rfl, SqL.of (e _ _ h2), e2, Out.here o' e r⟩
  · rename_i ts
    cases y <;> (try exact o.elim)
    cases ry
    rename_i i
    obtain ⟨a, vs, rfl, h2, h4⟩ := rx
    have o' : Out _ A F H Q E (.of (atI ts i)) := o
    cases q : atI ts i with
    | none => rw [q] at o'; exact o'.elim
    | some t =>
      rw [q] at o'
      obtain ⟨u, e2, r⟩ := h4.at q
      exact .inr (.inl ⟨a, vs, i, u, rfl, rfl, ex_t e h2, e2, Out.here o' e r⟩)
  · rename_i ts
    cases y <;> (try exact o.elim)
    cases ry
    rename_i i
    obtain ⟨a, vs, rfl, h2, h4⟩ := rx
    have o' : Out _ A F H Q E (.of (atI ts i)) := o
    cases q : atI ts i with
    | none => rw [q] at o'; exact o'.elim
    | some t =>
      rw [q] at o'
      obtain ⟨u, e2, r⟩ := h4.at q
      exact .inl ⟨a, vs, i, u, rfl, rfl, ex_l e h2, e2, Out.here o' e r⟩⟩
/-! ### one operand -/
def UnD (X : Cx) (cl : Cl) (f : Value → Sem Value) (g : T → Option T) : Prop := ∃ r, UnR X f r ∧ UnS ⟨X.K, cl⟩ r g
theorem unD_neg : UnD X cl (unaryOp .USub) T.neg := ⟨_, un_neg, fun A F H Q E x v ok e rx o => by
  cases x <;> (try exact o.elim)
  cases rx
  exact ⟨_, rfl, Out.here o e rfl⟩⟩
theorem unD_inv : UnD X cl (unaryOp .Invert) T.inv := ⟨_, un_inv, fun A F H Q E x v ok e rx o => by
  cases x <;> (try exact o.elim)
  cases rx
  exact ⟨_, rfl, Out.here o e rfl⟩⟩
theorem tru_of {G : Ge} {A : Al} {F H : Hp} {t : T} {v : V} {b : Bool} (h : rep G A F t v) (e : Ex F H) (q : T.tru t = some b) : TruV G.K v H b := by
  cases t <;> (try cases h) <;> (try cases q)
  · rfl
  · rfl
  · rfl
  · rename_i s
    have q' : (if lfit s.length = true then some ((s.length : Int) != 0) else none) = some b := q
    by_cases c : lfit s.length = true
    · rw [if_pos c] at q'
      cases q'
      exact ⟨of_decide_eq_true c, rfl⟩
    · rw [if_neg c] at q'
      cases q'
  · rename_i g ts a h
    obtain ⟨vs, rfl, h2, h3, h4⟩ := h
    refine .inl ⟨vs, SqL.of (e _ _ h2), ?_⟩
    have l := h4.length
    cases vs <;> cases ts <;> first | rfl | cases l
  · rename_i ts a h
    obtain ⟨vs, rfl, h2, h4⟩ := h
    refine .inr (.inl ⟨vs, ex_t e h2, ?_⟩)
    have l := h4.length
    cases vs <;> cases ts <;> first | rfl | cases l
  · rename_i ts a h
    obtain ⟨vs, rfl, h2, h4⟩ := h
    refine .inl ⟨vs, ex_l e h2, ?_⟩
    have l := h4.length
    cases vs <;> cases ts <;> first | rfl | cases l
end
end Py

set_option Elab.async false
set_option linter.all false
set_option maxRecDepth 100000
set_option maxHeartbeats 4000000
namespace Py
open PySem L2 PySem.Spec PyProof.Rows Evl

/-! ### what an expression is worth, as a function of the frame -/
namespace P
abbrev Ex1 := Fv → Res T
abbrev Bx := Fv → Res Bool
abbrev Ax := Fv → Res (List T)
def var (d i : Nat) : Ex1 := fun env => .of (rd d i env)
def c (t : T) : Ex1 := fun _ => .ok t
def bin (f : T → T → Option T) (p q : Ex1) : Ex1 := fun env => (p env).bind fun x => (q env).bind fun y => .of (f x y)
def un (f : T → Option T) (p : Ex1) : Ex1 := fun env => (p env).bind fun x => .of (f x)
def tb (p : Ex1) : Bx := fun env => (p env).bind fun x => .of x.boo
def tr (p : Ex1) : Bx := fun env => (p env).bind fun x => .of x.tru
def and (p q : Bx) : Bx := fun env => (p env).bind fun b => if b = true then q env else .ok false
def or (p q : Bx) : Bx := fun env => (p env).bind fun b => if b = true then .ok true else q env
def not (p : Bx) : Bx := fun env => (p env).bind fun b => .ok (!b)
def andV (p q : Ex1) : Ex1 := fun env => (p env).bind fun x => (Res.of x.boo).bind fun b => if b = true then q env else .ok (.bl false)
def orV (p q : Ex1) : Ex1 := fun env => (p env).bind fun x => (Res.of x.boo).bind fun b => if b = true then .ok (.bl true) else q env
def notV (p : Ex1) : Ex1 := fun env => (p env).bind fun x => (Res.of x.boo).bind fun b => .ok (.bl (!b))
def ite (t : Bx) (p q : Ex1) : Ex1 := fun env => (t env).bind fun b => if b = true then p env else q env
/-- a < b < c -/
def chain (f g : T → T → Option T) (p q r : Ex1) : Ex1 := fun env => (p env).bind fun x => (q env).bind fun y => (Res.of (f x y)).bind fun z => (Res.of z.boo).bind fun b =>
  if b = true then (r env).bind fun u => .of (g y u) else .ok (.bl false)
def chainT (f g : T → T → Option T) (p q r : Ex1) : Bx := fun env => (p env).bind fun x => (q env).bind fun y => (Res.of (f x y)).bind fun z => (Res.of z.boo).bind fun b =>
  if b = true then (r env).bind fun u => (Res.of (g y u)).bind fun z => .of z.boo else .ok false
def nil : Ax := fun _ => .ok []
def cons (p : Ex1) (a : Ax) : Ax := fun env => (p env).bind fun x => (a env).bind fun xs => .ok (x :: xs)
def tup (a : Ax) : Ex1 := fun env => (a env).bind fun xs => if lfit xs.length = true then .ok (.tup xs) else .stuck
def lst (a : Ax) : Ex1 := fun env => (a env).bind fun xs => if lfit xs.length = true then .ok (.lst none xs) else .stuck
/-- a call by the values of its arguments -/
def call (f : List T → Res T) (a : Ax) : Ex1 := fun env => (a env).bind f
end P

section
variable {G : Ge} {d : Nat} {W : WX} {ta tb tc : TE} {p q r : P.Ex1} {tt tu : TT} {b b' : P.Bx} {f g : T → T → Option T} {r1 r2 : R2} {tl : TA} {a : P.Ax}
theorem se_var {i : Nat} : SE G d W (tVar i) (P.var d i) := fun A env σ F H Q R e o => by
  have o' : Out G A F H Q (WE W σ) (.of (rd d i env)) := o
  cases z : rd d i env with
  | none => rw [z] at o'; exact o'.elim
  | some t =>
    rw [z] at o'
    obtain ⟨v, h1, h2⟩ := R.slots i t z
    exact ⟨v, h1, Out.here o' e h2⟩
theorem se_c {v : V} {t : T} (h : ∀ A F, rep G A F t v) : SE G d W (tC v) (P.c t) := fun A env σ F H Q R e o => Out.here o e (h A F)
theorem Outg.boo {α β : Type} {A : Al} {F H : Hp} {E : XK} {R' : Hp → α → β → Prop} {Q' : β → Hp → Prop} {x : T} {v : V} {k : Bool → Res α} (rx : rep G A F x v) (o : Outg G A F H R' Q' E ((Res.of x.boo).bind k)) : ∃ c, v = .bl c ∧ Outg G A F H R' Q' E (k c) := by
  cases x <;> (try exact o.elim)
  cases rx
  exact ⟨_, rfl, o⟩
theorem se_op (hr : OpS G r1 f) (ha : SE G d W ta p) (hb : SE G d W tb q) : SE G d W (tOp r1 ta tb) (P.bin f p q) := fun A env σ F H Q R e o =>
  ha A env σ F H _ R e (Outg.bind o fun x v F1 H1 g1 rx o1 => hb A env σ F1 H1 _ (R.mono g1.ex) g1.sub (Outg.bind o1 fun y w F2 H2 g2 ry o2 =>
    hr A F2 H2 Q _ x y v w ((R.ok.mono g1.ex).mono g2.ex) g2.sub (rx.mono g2.ex) ry o2))
theorem se_un {r1 : V → Hp → VK → Prop} {f : T → Option T} (hr : UnS G r1 f) (ha : SE G d W ta p) : SE G d W (tUn r1 ta) (P.un f p) := fun A env σ F H Q R e o =>
  ha A env σ F H _ R e (Outg.bind o fun x v F1 H1 g1 rx o1 => hr A F1 H1 Q _ x v (R.ok.mono g1.ex) g1.sub rx o1)
theorem boo_end {A : Al} {F H : Hp} {E : XK} {Q : Bool → Hp → Prop} {x : T} {v : V} (rx : rep G A F x v) (e : Ex F H) (o : OutB G A F H Q E (.of x.boo)) : ∃ c, v = .bl c ∧ Q c H := by
  cases x <;> (try exact o.elim)
  cases rx
  exact ⟨_, rfl, OutB.here o e⟩
theorem st_tb (ha : SE G d W ta p) : ST G d W (tB ta) (P.tb p) := fun A env σ F H Q R e o =>
  ha A env σ F H _ R e (Outg.bind o fun x v F1 H1 g1 rx o1 => boo_end rx g1.sub o1)
theorem st_test (ha : SE G d W ta p) : ST G d W (tTest ta) (P.tb p) := fun A env σ F H Q R e o =>
  ha A env σ F H _ R e (Outg.bind o fun x v F1 H1 g1 rx o1 => boo_end rx g1.sub o1)
theorem st_tr (ha : SE G d W ta p) : ST G d W (fun σ H Q => ta σ H fun x H' => ∃ k, TruV G.K x H' k ∧ Q k H') (P.tr p) := fun A env σ F H Q R e o =>
  ha A env σ F H _ R e (Outg.bind o fun x v F1 H1 g1 rx o1 => by
    cases z : x.tru with
    | none => rw [z] at o1; exact o1.elim
    | some k =>
      rw [z] at o1
      exact ⟨k, tru_of rx g1.sub z, OutB.here o1 g1.sub⟩)
theorem st_and (ha : ST G d W tt b) (hb : ST G d W tu b') : ST G d W (tAnd tt tu) (P.and b b') := fun A env σ F H Q R e o =>
  ha A env σ F H _ R e (Outg.bind o fun x v F1 H1 g1 rx o1 => by
    subst rx
    cases x with
    | true => exact hb A env σ F1 H1 Q (R.mono g1.ex) g1.sub o1
    | false => exact OutB.here o1 g1.sub)
theorem st_or (ha : ST G d W tt b) (hb : ST G d W tu b') : ST G d W (tOr tt tu) (P.or b b') := fun A env σ F H Q R e o =>
  ha A env σ F H _ R e (Outg.bind o fun x v F1 H1 g1 rx o1 => by
    subst rx
    cases x with
    | false => exact hb A env σ F1 H1 Q (R.mono g1.ex) g1.sub o1
    | true => exact OutB.here o1 g1.sub)
theorem st_not (ha : ST G d W tt b) : ST G d W (tNot tt) (P.not b) := fun A env σ F H Q R e o =>
  ha A env σ F H _ R e (Outg.bind o fun x v F1 H1 g1 rx o1 => by
    subst rx
    exact OutB.here o1 g1.sub)
theorem se_andV (ha : SE G d W ta p) (hb : SE G d W tb q) : SE G d W (tAndV ta tb) (P.andV p q) := fun A env σ F H Q R e o =>
  ha A env σ F H _ R e (Outg.bind o fun x v F1 H1 g1 rx o1 => by
    obtain ⟨c, rfl, o2⟩ := Outg.boo rx o1
    refine ⟨c, rfl, ?_⟩
    cases c with
    | true => exact hb A env σ F1 H1 Q (R.mono g1.ex) g1.sub o2
    | false => exact Out.here o2 g1.sub rfl)
theorem se_orV (ha : SE G d W ta p) (hb : SE G d W tb q) : SE G d W (tOrV ta tb) (P.orV p q) := fun A env σ F H Q R e o =>
  ha A env σ F H _ R e (Outg.bind o fun x v F1 H1 g1 rx o1 => by
    obtain ⟨c, rfl, o2⟩ := Outg.boo rx o1
    refine ⟨c, rfl, ?_⟩
    cases c with
    | false => exact hb A env σ F1 H1 Q (R.mono g1.ex) g1.sub o2
    | true => exact Out.here o2 g1.sub rfl)
theorem se_notV (ha : SE G d W ta p) : SE G d W (tNotV ta) (P.notV p) := fun A env σ F H Q R e o =>
  ha A env σ F H _ R e (Outg.bind o fun x v F1 H1 g1 rx o1 => by
    obtain ⟨c, rfl, o2⟩ := Outg.boo rx o1
    exact ⟨c, rfl, Out.here o2 g1.sub rfl⟩)
theorem se_if (ht : ST G d W tt b) (ha : SE G d W ta p) (hb : SE G d W tb q) : SE G d W (tIf tt ta tb) (P.ite b p q) := fun A env σ F H Q R e o =>
  ht A env σ F H _ R e (Outg.bind o fun x v F1 H1 g1 rx o1 => by
    subst rx
    cases x with
    | true => exact ha A env σ F1 H1 Q (R.mono g1.ex) g1.sub o1
    | false => exact hb A env σ F1 H1 Q (R.mono g1.ex) g1.sub o1)
/-- an operation within a way -/
theorem OpS.bind {α β : Type} (hr : OpS G r1 f) {A : Al} {F H : Hp} {E : XK} {R' : Hp → α → β → Prop} {Q : VK} {Q' : β → Hp → Prop} {x y : T} {v w : V} {k : T → Res α} (ok : AOk A F) (e : Ex F H) (rx : rep G A F x v) (ry : rep G A F y w)
    (o : Outg G A F H R' Q' E ((Res.of (f x y)).bind k)) (h : ∀ z u F1 H1, Grow F H F1 H1 → rep G A F1 z u → Outg G A F1 H1 R' Q' E (k z) → Q u H1) : r1 v w H Q :=
  hr A F H Q E x y v w ok e rx ry (Outg.bind o h)
theorem se_chain (h1 : OpS G r1 f) (h2 : OpS G r2 g) (ha : SE G d W ta p) (hb : SE G d W tb q) (hc : SE G d W tc r) : SE G d W (tChain r1 r2 ta tb tc) (P.chain f g p q r) := fun A env σ F H Q R e o =>
  ha A env σ F H _ R e (Outg.bind o fun x v F1 H1 g1 rx o1 => hb A env σ F1 H1 _ (R.mono g1.ex) g1.sub (Outg.bind o1 fun y w F2 H2 g2 ry o2 =>
    have R2 := (R.mono g1.ex).mono g2.ex
    h1.bind R2.ok g2.sub (rx.mono g2.ex) ry o2 fun z u F3 H3 g3 rz o3 => by
      obtain ⟨c, rfl, o4⟩ := Outg.boo rz o3
      refine ⟨c, rfl, ?_⟩
      cases c with
      | false => exact Out.here o4 g3.sub rfl
      | true => exact hc A env σ F3 H3 _ (R2.mono g3.ex) g3.sub (Outg.bind o4 fun z2 u2 F4 H4 g4 rz2 o5 => h2 A F4 H4 Q _ y z2 w u2 ((R2.mono g3.ex).mono g4.ex).ok g4.sub ((ry.mono g3.ex).mono g4.ex) rz2 o5)))
theorem sa_nil : SA G d W tNil P.nil := fun A env σ F H Q R e o => OutA.here o e rfl
theorem sa_cons (ha : SE G d W ta p) (hl : SA G d W tl a) : SA G d W (tCons ta tl) (P.cons p a) := fun A env σ F H Q R e o =>
  ha A env σ F H _ R e (Outg.bind o fun x v F1 H1 g1 rx o1 => hl A env σ F1 H1 _ (R.mono g1.ex) g1.sub (Outg.bind o1 fun xs vs F2 H2 g2 rs o2 =>
    OutA.here o2 g2.sub ⟨v, vs, rfl, rx.mono g2.ex, rs⟩))
theorem se_tup (hl : SA G d W tl a) : SE G d W (tTup tl) (P.tup a) := fun A env σ F H Q R e o =>
  hl A env σ F H _ R e (Outg.bind o fun xs vs F1 H1 g1 rs o1 => by
    by_cases c : lfit xs.length = true
    · rw [if_pos c] at o1
      exact ⟨by rw [rs.length]; exact of_decide_eq_true c, Out.tup o1 g1.sub rs⟩
    · rw [if_neg c] at o1
      exact o1.elim)
theorem se_lst (hl : SA G d W tl a) : SE G d W (tLst tl) (P.lst a) := fun A env σ F H Q R e o =>
  hl A env σ F H _ R e (Outg.bind o fun xs vs F1 H1 g1 rs o1 => by
    by_cases c : lfit xs.length = true
    · rw [if_pos c] at o1
      exact ⟨by rw [rs.length]; exact of_decide_eq_true c, Out.lst o1 (R.ok.mono g1.ex) g1.sub rs⟩
    · rw [if_neg c] at o1
      exact o1.elim)
end

/-! ### calls -/
/-- a def's promise: its function of trees; n: how many parameters. The owners of changeable things stand above (their depth is less) -/
def spT (G : Ge) (n : Nat) (f : Nat → List T → Res T) : Sp := fun vs H Q E => vs.length = n ∧ ∃ d A F ts, AOk A F ∧ (∀ g a, A g = some a → g.1 < d) ∧ Ex F H ∧ reps G A F ts vs ∧ Out G A F H Q E (f d ts)
def CRs (G : Ge) (n : Nat) (r : List V → Hp → VK → Prop) (f : List T → Res T) : Prop := ∀ A F H Q E ts vs, AOk A F → Ex F H → reps G A F ts vs → Out G A F H Q E (f ts) → r vs H Q
section
variable {G : Ge} {d : Nat} {W : WX} {tl : TA} {a : P.Ax}
theorem se_callB {r : List V → Hp → VK → Prop} {f : List T → Res T} (hr : CRs G 0 r f) (hl : SA G d W tl a) : SE G d W (tCB r tl) (P.call f a) := fun A env σ F H Q R e o =>
  hl A env σ F H _ R e (Outg.bind o fun xs vs F1 H1 g1 rs o1 => hr A F1 H1 Q _ xs vs (R.ok.mono g1.ex) g1.sub rs o1)
theorem se_call {E : L2.St → XK} {n : Nat} {f : Nat → List T → Res T} (hE : E = WE W) (hn : ∀ env xs, a env = .ok xs → xs.length = n) (hl : SA G d W tl a) : SE G d W (tCallS (spT G n f) E tl) (P.call (f (d + 1)) a) := fun A env σ F H Q R e o => by
  subst hE
  have o' : Out G A F H Q (WE W σ) ((a env).bind (f (d + 1))) := o
  have hn' := hn env
  refine hl A env σ F H _ R e ?_
  cases q : a env with
  | er e => rw [q] at o'; exact o'
  | stuck => rw [q] at o'; exact o'
  | ok xs =>
    rw [q] at o'
    exact fun vs F1 H1 g1 rs => ⟨by rw [rs.length]; exact hn' xs q, d + 1, A, F1, xs, R.ok.mono g1.ex, fun g a z => Nat.lt_succ_of_le (R.dep g a z), g1.sub, rs, Outg.step g1 o'⟩
end
end Py

set_option Elab.async false
set_option linter.all false
set_option maxRecDepth 100000
set_option maxHeartbeats 4000000
namespace Py
open PySem L2 PySem.Spec PyProof.Rows Evl

/-! ### statements -/
inductive RS where
  | nx (env : Fv)
  | rt (t : T)
  | br (env : Fv)
  | ct (env : Fv)
  | er (e : Exn) (env : Fv)
  | stuck
abbrev Sx := Fv → RS
/-- an expression first; what it raises leaves the frame as it was -/
def Res.then_ {α : Type} (m : Res α) (env : Fv) (k : α → RS) : RS := match m with
  | .ok a => k a
  | .er e => .er e env
  | .stuck => .stuck
@[simp] theorem Res.then_ok {α : Type} (a : α) (env : Fv) (k : α → RS) : Res.then_ (.ok a) env k = k a := nrfl rfl
@[simp] theorem Res.then_er {α : Type} (e : Exn) (env : Fv) (k : α → RS) : Res.then_ (.er e) env k = .er e env := nrfl rfl
@[simp] theorem Res.then_stuck {α : Type} (env : Fv) (k : α → RS) : Res.then_ (.stuck) env k = .stuck := nrfl rfl
/-- the frame without its changeable things -/
def Sl.hide : Option Sl → Option Sl
  | some (.fz t) => some (.fz t)
  | _ => none
def hide (env : Fv) : Fv := env.map Sl.hide
def flat : T → Bool
  | .non => true
  | .bl _ => true
  | .int _ => true
  | .str _ => true
  | _ => false
/-- a changeable thing of a frame -/
def OwnO : Option HO → Prop
  | some (.lst _) => True
  | some (.ins _ _ _) => True
  | _ => False
theorem OwnO.ne {o : Option HO} (h : OwnO o) : o ≠ none := fun z => by
  rw [z] at h
  exact h
theorem OwnO.keep {H H1 : Hp} {a : Addr} (h : OwnO (H a)) (e : Ex H H1) : OwnO (H1 a) := by
  cases q : H a with
  | none => exact absurd q h.ne
  | some o =>
    rw [e _ _ q, ← q]
    exact h
def xflat (e : Exn) : Bool := e.ts.all flat
/-- over the whole frame: what is raised holds flat things -/
def Res.thenX {α : Type} (m : Res α) (env : Fv) (k : α → RS) : RS := match m with
  | .ok a => k a
  | .er e => if xflat e = true then .er e env else .stuck
  | .stuck => .stuck
@[simp] theorem Res.thenX_ok {α : Type} (a : α) (env : Fv) (k : α → RS) : Res.thenX (.ok a) env k = k a := nrfl rfl
@[simp] theorem Res.thenX_er {α : Type} (e : Exn) (env : Fv) (k : α → RS) : Res.thenX (.er e) env k = if xflat e = true then .er e env else .stuck := nrfl rfl
@[simp] theorem Res.thenX_stuck {α : Type} (env : Fv) (k : α → RS) : Res.thenX (.stuck) env k = .stuck := nrfl rfl
structure Rel (G : Ge) (d : Nat) (A0 : Al) (F0 H0 : Hp) (A : Al) (env : Fv) (σ : L2.St) (F H : Hp) : Prop where
  ok0 : AOk A0 F0
  dep0 : ∀ g a, A0 g = some a → g.1 < d
  len : env.length = σ.length
  agree : ∀ g, g.1 < d → A g = A0 g
  dep : ∀ g a, A g = some a → g.1 ≤ d
  inj : ∀ g g' a, A g = some a → A g' = some a → g = g'
  own : ∀ (i : Nat) (a : Addr), A (d, i) = some a → F a = none ∧ H0 a = none ∧ OwnO (H a)
  exF : Ex F0 F
  sub : Ex F H
  keep : Ex H0 H
  sep : ∀ a, F0 a = none → H0 a ≠ none → F a = none
  fz : ∀ (i : Nat) (t : T), env[i]? = some (some (.fz t)) → ∃ v, σ[i]? = some (some v) ∧ rep G A0 F t v
  ol : ∀ (i : Nat) (ts : List T), env[i]? = some (some (.ol ts)) → ∃ p vs, σ[i]? = some (some (.ref p)) ∧ A (d, i) = some p ∧ H p = some (.lst vs) ∧ reps G A0 F ts vs
  oi : ∀ (i : Nat) (c : Nat) (ns : List Str) (ts : List T), env[i]? = some (some (.oi c ns ts)) → ∃ p dx vs, σ[i]? = some (some (.ref p)) ∧ A (d, i) = some p ∧ H p = some (.ins (G.cl c) dx (ns.zip vs)) ∧ vs.length = ns.length ∧ reps G A0 F ts vs
section
variable {G : Ge} {d : Nat} {A0 A A' : Al} {F0 H0 F H F1 H1 : Hp} {env : Fv} {σ : L2.St} {t : T} {v : V}
mutual
theorem rep.weak (h1 : ∀ g a, A g = some a → A' g = some a) (h2 : ∀ g a, A' g = some a → A g = some a ∨ F a = none) : ∀ {t : T} {v : V}, rep G A F t v → rep G A' F t v
  | .non, _, h => h
  | .bl _, _, h => h
  | .int _, _, h => h
  | .str _, _, h => h
  | .lst g _, _, ⟨a, vs, e1, e2, e3, e4⟩ => ⟨a, vs, e1, e2, tag_weak h1 h2 e2 e3, reps.weak h1 h2 e4⟩
  | .tup _, _, ⟨a, vs, e1, e2, e4⟩ => ⟨a, vs, e1, e2, reps.weak h1 h2 e4⟩
  | .ro _, _, ⟨a, vs, e1, e2, e4⟩ => ⟨a, vs, e1, e2, reps.weak h1 h2 e4⟩
  | .ins g _ _ _, _, ⟨a, dx, vs, e1, e2, e3, e5, e4⟩ => ⟨a, dx, vs, e1, e2, e3, tag_weak h1 h2 e2 e5, reps.weak h1 h2 e4⟩
  | .exn _ _ _, _, ⟨a, cls, dx, e1, e2, e3, e4⟩ => ⟨a, cls, dx, e1, e2, e3, match e4 with
    | .inl z => .inl z
    | .inr ⟨dd, vs, k1, k2, k3, k4⟩ => .inr ⟨dd, vs, k1, k2, k3, reps.weak h1 h2 k4⟩⟩
theorem reps.weak (h1 : ∀ g a, A g = some a → A' g = some a) (h2 : ∀ g a, A' g = some a → A g = some a ∨ F a = none) : ∀ {ts : List T} {vs : List V}, reps G A F ts vs → reps G A' F ts vs
  | [], _, h => h
  | _ :: _, _, ⟨v, ws, e1, e2, e3⟩ => ⟨v, ws, e1, rep.weak h1 h2 e2, reps.weak h1 h2 e3⟩
theorem tag_weak (h1 : ∀ g a, A g = some a → A' g = some a) (h2 : ∀ g a, A' g = some a → A g = some a ∨ F a = none) {g : Option Tag} {a : Addr} {o : HO} (e2 : F a = some o) (h : tagOk A g a) : tagOk A' g a := match g, h with
  | none, h => fun g z => (h2 g a z).elim (h g) fun y => by rw [y] at e2; cases e2
  | some g, h => h1 g a h
end
open Classical in
/-- the frozen part and the frame's own things -/
noncomputable def plus (d : Nat) (A : Al) (F H : Hp) : Hp := fun a => if ∃ i, A (d, i) = some a then H a else F a
open Classical in
/-- .. without them -/
noncomputable def minus (d : Nat) (A : Al) (F : Hp) : Hp := fun a => if ∃ i, A (d, i) = some a then none else F a
theorem plus_own {i : Nat} {a : Addr} (h : A (d, i) = some a) : plus d A F H a = H a := if_pos ⟨i, h⟩
theorem plus_not {a : Addr} (h : ∀ i, A (d, i) ≠ some a) : plus d A F H a = F a := if_neg fun ⟨i, z⟩ => h i z
theorem minus_own {i : Nat} {a : Addr} (h : A (d, i) = some a) : minus d A F a = none := if_pos ⟨i, h⟩
theorem minus_not {a : Addr} (h : ∀ i, A (d, i) ≠ some a) : minus d A F a = F a := if_neg fun ⟨i, z⟩ => h i z
section
variable (R : Rel G d A0 F0 H0 A env σ F H)
include R
theorem Rel.notOwn {a : Addr} {o : HO} (h : F a = some o) : ∀ i, A (d, i) ≠ some a := fun i z => by
  rw [(R.own i a z).1] at h
  cases h
theorem Rel.exP : Ex F (plus d A F H) := fun a o h => by
  rw [plus_not (R.notOwn h)]
  exact h
theorem Rel.subP : Ex (plus d A F H) H := fun a o h => by
  by_cases c : ∃ i, A (d, i) = some a
  · obtain ⟨i, c⟩ := c
    rw [plus_own c] at h
    exact h
  · rw [plus_not fun i z => c ⟨i, z⟩] at h
    exact R.sub a o h
theorem Rel.dep1 {g : Tag} {a : Addr} (h : A g = some a) : A0 g = some a ∨ ∃ i, g = (d, i) := by
  rcases Nat.lt_or_eq_of_le (R.dep g a h) with z | z
  · exact .inl (by rw [← R.agree g z]; exact h)
  · exact .inr ⟨g.2, by rw [← z]⟩
theorem Rel.up {t : T} {v : V} (h : rep G A0 F t v) : rep G A (plus d A F H) t v :=
  (h.weak (A' := A) (fun g a z => by rw [R.agree g (R.dep0 g a z)]; exact z) fun g a z => (R.dep1 z).imp id fun ⟨i, e⟩ => (R.own i a (by rw [← e]; exact z)).1).mono R.exP
theorem Rel.ups {t : List T} {v : List V} (h : reps G A0 F t v) : reps G A (plus d A F H) t v :=
  (h.weak (A' := A) (fun g a z => by rw [R.agree g (R.dep0 g a z)]; exact z) fun g a z => (R.dep1 z).imp id fun ⟨i, e⟩ => (R.own i a (by rw [← e]; exact z)).1).mono R.exP
/-- what an expression sees of the whole frame -/
theorem Rel.re : RE G d A env σ (plus d A F H) where
  ok := ⟨R.inj, fun g a z => by
    rcases R.dep1 z with y | ⟨i, e⟩
    · cases q : F0 a with
      | none => exact absurd q (R.ok0.al g a y)
      | some o =>
        rw [(R.exF.trans R.exP) a o q]
        exact fun y => nomatch y
    · subst e
      rw [plus_own z]
      exact (R.own i a z).2.2.ne⟩
  len := R.len
  dep := R.dep
  slots := fun i t h => by
    unfold rd at h
    split at h
    · rename_i u e
      cases h
      obtain ⟨v, h1, h2⟩ := R.fz i _ e
      exact ⟨v, h1, R.up h2⟩
    · rename_i ts e
      cases h
      obtain ⟨p, vs, h1, h2, h3, h4⟩ := R.ol i _ e
      exact ⟨_, h1, p, vs, rfl, by rw [plus_own h2]; exact h3, h2, R.ups h4⟩
    · rename_i c ns ts e
      cases h
      obtain ⟨p, dx, vs, h1, h2, h3, h5, h4⟩ := R.oi i _ _ _ e
      exact ⟨_, h1, p, dx, vs, rfl, by rw [plus_own h2]; exact h3, h5, h2, R.ups h4⟩
    · cases h
theorem hide_get {env : Fv} {i : Nat} {s : Sl} (h : (hide env)[i]? = some (some s)) : ∃ t, s = .fz t ∧ env[i]? = some (some (.fz t)) := by
  unfold hide at h
  rw [List.getElem?_map] at h
  cases q : env[i]? with
  | none => rw [q] at h; cases h
  | some o =>
    rw [q] at h
    cases o with
    | none => cases h
    | some s' =>
      cases s' with
      | fz t => cases h; exact ⟨t, rfl, rfl⟩
      | ol ts => cases h
      | oi c ns ts => cases h
/-- .. of the frozen part alone -/
theorem Rel.reH : RE G d A0 (hide env) σ F where
  ok := R.ok0.mono R.exF
  len := by
    unfold hide
    rw [List.length_map]
    exact R.len
  dep := fun g a z => Nat.le_of_lt (R.dep0 g a z)
  slots := fun i t h => by
    unfold rd at h
    split at h
    · rename_i u e
      cases h
      obtain ⟨t, e1, e2⟩ := hide_get R e
      cases e1
      exact R.fz i _ e2
    · rename_i ts e
      obtain ⟨t, e1, e2⟩ := hide_get R e
      cases e1
    · rename_i c ns ts e
      obtain ⟨t, e1, e2⟩ := hide_get R e
      cases e1
    · cases h
/-- the frozen part grows -/
theorem Rel.grow (g : Grow F H F1 H1) : Rel G d A0 F0 H0 A env σ F1 H1 where
  ok0 := R.ok0
  dep0 := R.dep0
  len := R.len
  agree := R.agree
  dep := R.dep
  inj := R.inj
  own := fun i a z => by
    obtain ⟨h1, h2, h3⟩ := R.own i a z
    exact ⟨g.sep a h1 h3.ne, h2, h3.keep g.keep⟩
  exF := R.exF.trans g.ex
  sub := g.sub
  keep := R.keep.trans g.keep
  sep := fun a h1 h2 => g.sep a (R.sep a h1 h2) fun y => h2 (none_of_ex R.keep y)
  fz := fun i t e => let ⟨v, h1, h2⟩ := R.fz i t e; ⟨v, h1, h2.mono g.ex⟩
  ol := fun i ts e => let ⟨p, vs, h1, h2, h3, h4⟩ := R.ol i ts e; ⟨p, vs, h1, h2, g.keep _ _ h3, h4.mono g.ex⟩
  oi := fun i c ns ts e => let ⟨p, dx, vs, h1, h2, h3, h5, h4⟩ := R.oi i c ns ts e; ⟨p, dx, vs, h1, h2, g.keep _ _ h3, h5, h4.mono g.ex⟩
/-- behind an expression over the whole frame -/
theorem Rel.low (g : Grow (plus d A F H) H F1 H1) : Grow F H (minus d A F1) H1 where
  ex := fun a o h => by
    rw [minus_not (R.notOwn h)]
    exact g.ex a o (R.exP a o h)
  sub := fun a o h => by
    by_cases c : ∃ i, A (d, i) = some a
    · obtain ⟨i, c⟩ := c
      rw [minus_own c] at h
      cases h
    · rw [minus_not fun i z => c ⟨i, z⟩] at h
      exact g.sub a o h
  keep := g.keep
  sep := fun a h1 h2 => by
    by_cases c : ∃ i, A (d, i) = some a
    · obtain ⟨i, c⟩ := c
      exact minus_own c
    · have c' : ∀ i, A (d, i) ≠ some a := fun i z => c ⟨i, z⟩
      rw [minus_not c']
      exact g.sep a (by rw [plus_not c']; exact h1) h2
/-- a slot set to a frozen thing -/
theorem Rel.set {i : Nat} (h : rep G A0 F t v) (hi : i < env.length) : ∃ A', Rel G d A0 F0 H0 A' (env.set i (some (.fz t))) (σ.set i (some v)) F H := by
  refine ⟨fun g => if g = (d, i) then none else A g, R.ok0, R.dep0, by rw [List.length_set, List.length_set]; exact R.len, fun g z => ?_, fun g a z => ?_, fun g g' a z y => ?_, fun j a z => ?_, R.exF, R.sub, R.keep, R.sep, fun j u e => ?_, fun j u e => ?_, fun j cc ns u e => ?_⟩
  · show (if g = (d, i) then none else A g) = _
    rw [if_neg (fun y => by rw [y] at z; exact absurd z (Nat.lt_irrefl _))]
    exact R.agree g z
  · have z' : (if g = (d, i) then none else A g) = some a := z
    by_cases c : g = (d, i)
    · rw [if_pos c] at z'; cases z'
    · rw [if_neg c] at z'; exact R.dep g a z'
  · have z' : (if g = (d, i) then none else A g) = some a := z
    have y' : (if g' = (d, i) then none else A g') = some a := y
    by_cases c : g = (d, i)
    · rw [if_pos c] at z'; cases z'
    · by_cases c' : g' = (d, i)
      · rw [if_pos c'] at y'; cases y'
      · rw [if_neg c] at z'; rw [if_neg c'] at y'; exact R.inj g g' a z' y'
  · have z' : (if (d, j) = (d, i) then none else A (d, j)) = some a := z
    by_cases c : (d, j) = (d, i)
    · rw [if_pos c] at z'; cases z'
    · rw [if_neg c] at z'; exact R.own j a z'
  · by_cases c : i = j
    · subst c
      rw [List.getElem?_set_self hi] at e
      cases e
      exact ⟨v, List.getElem?_set_self (by rw [← R.len]; exact hi), h⟩
    · rw [List.getElem?_set_ne c] at e ⊢
      exact R.fz j u e
  · by_cases c : i = j
    · subst c
      rw [List.getElem?_set_self hi] at e
      cases e
    · rw [List.getElem?_set_ne c] at e ⊢
      obtain ⟨p, vs, h1, h2, h3⟩ := R.ol j u e
      refine ⟨p, vs, h1, ?_, h3⟩
      show (if (d, j) = (d, i) then none else A (d, j)) = some p
      rw [if_neg (fun y => c (Prod.mk.inj y).2.symm)]
      exact h2
  · by_cases c : i = j
    · subst c
      rw [List.getElem?_set_self hi] at e
      cases e
    · rw [List.getElem?_set_ne c] at e ⊢
      obtain ⟨p, dx, vs, h1, h2, h3⟩ := R.oi j cc ns u e
      refine ⟨p, dx, vs, h1, ?_, h3⟩
      show (if (d, j) = (d, i) then none else A (d, j)) = some p
      rw [if_neg (fun y => c (Prod.mk.inj y).2.symm)]
      exact h2
end
end
end Py

set_option Elab.async false
set_option linter.all false
set_option maxRecDepth 100000
set_option maxHeartbeats 4000000
namespace Py
open PySem L2 PySem.Spec PyProof.Rows Evl

/-! ### what a statement does to the frame -/
namespace S
def asg (i : Nat) (p : P.Ex1) : Sx := fun env => (p (hide env)).then_ env fun t => if i < env.length then .nx (env.set i (some (.fz t))) else .stuck
def asgX (i : Nat) (p : P.Ex1) : Sx := fun env => (p env).thenX env fun t => if flat t = true ∧ i < env.length then .nx (env.set i (some (.fz t))) else .stuck
def new (i : Nat) (p : Fv → Res (List T)) : Sx := fun env => (p (hide env)).then_ env fun ts => if i < env.length then .nx (env.set i (some (.ol ts))) else .stuck
def frz (i : Nat) (s : Sx) : Sx := fun env => match env[i]? with
  | some (some (.ol ts)) => s (env.set i (some (.fz (.lst none ts))))
  | some (some (.oi c ns ts)) => s (env.set i (some (.fz (.ins none c ns ts))))
  | _ => s env
def app (i : Nat) (p : P.Ex1) : Sx := fun env => match env[i]? with
  | some (some (.ol ts)) => (p (hide env)).then_ env fun t => if ts.length < sizeLine then .nx (env.set i (some (.ol (ts ++ [t])))) else .stuck
  | _ => .stuck
def appX (i : Nat) (p : P.Ex1) : Sx := fun env => match env[i]? with
  | some (some (.ol ts)) => (p env).thenX env fun t => if flat t = true ∧ ts.length < sizeLine then .nx (env.set i (some (.ol (ts ++ [t])))) else .stuck
  | _ => .stuck
def setX (i : Nat) (k p : P.Ex1) : Sx := fun env => match env[i]? with
  | some (some (.ol ts)) => (p env).thenX env fun t => (k env).thenX env fun j => (match j with
    | .int z => (match ixN ts.length z with
      | some m => if flat t = true then .nx (env.set i (some (.ol (ts.set m t)))) else .stuck
      | none => .stuck)
    | _ => .stuck)
  | _ => .stuck
def seq (s u : Sx) : Sx := fun env => match s env with
  | .nx env => u env
  | r => r
def skip : Sx := fun env => .nx env
def expr (p : P.Ex1) : Sx := fun env => (p env).thenX env fun _ => .nx env
def ret (p : P.Ex1) : Sx := fun env => (p (hide env)).then_ env fun t => .rt t
def retX (p : P.Ex1) : Sx := fun env => (p env).thenX env fun t => if flat t = true then .rt t else .stuck
def retN : Sx := fun _ => .rt .non
def brk : Sx := fun env => .br env
def cnt : Sx := fun env => .ct env
def ite (t : P.Bx) (s u : Sx) : Sx := fun env => (t env).thenX env fun b => if b = true then s env else u env
/-- a for: one turn an item; tg: what the target does -/
def turns (tg : T → Fv → Option Fv) (body : Sx) : List T → Sx
  | [] => fun env => .nx env
  | t :: ts => fun env => match tg t env with
    | some env1 => (match body env1 with
      | .nx env => turns tg body ts env
      | .ct env => turns tg body ts env
      | .br env => .nx env
      | r => r)
    | none => .stuck
def for_ (tg : T → Fv → Option Fv) (p : Fv → Res (List T)) (body : Sx) : Sx := fun env => (p (hide env)).then_ env fun ts => turns tg body ts env
def forX (tg : T → Fv → Option Fv) (p : Fv → Res (List T)) (body : Sx) : Sx := fun env => (p env).thenX env fun ts => if ts.all flat = true then turns tg body ts env else .stuck
/-- targets -/
def tName (i : Nat) : T → Fv → Option Fv := fun t env => if i < env.length then some (env.set i (some (.fz t))) else none
def tNames : List (T → Fv → Option Fv) → List T → Fv → Option Fv
  | [], [], env => some env
  | g :: gs, t :: ts, env => (g t env).bind fun env => tNames gs ts env
  | _, _, _ => none
def tTup (gs : List (T → Fv → Option Fv)) : T → Fv → Option Fv := fun t env => match t with
  | .tup ts => tNames gs ts env
  | _ => none
/-- a target that is more than a name -/
def unp (tg : T → Fv → Option Fv) (p : P.Ex1) : Sx := fun env => (p (hide env)).then_ env fun t => match tg t env with
  | some env => .nx env
  | none => .stuck
def while_ (t : P.Bx) (body : Sx) : Nat → Sx
  | 0 => fun _ => .stuck
  | n + 1 => fun env => (t env).thenX env fun b => if b = true then (match body env with
    | .nx env => while_ t body n env
    | .ct env => while_ t body n env
    | .br env => .nx env
    | r => r) else .nx env
end S

def OutS (G : Ge) (d : Nat) (A0 : Al) (F0 H0 : Hp) (W : WX) (D : Ends) : RS → Prop
  | .nx env => ∀ A σ F H, Rel G d A0 F0 H0 A env σ F H → D.nx σ H
  | .br env => ∀ A σ F H, Rel G d A0 F0 H0 A env σ F H → D.bk σ H
  | .ct env => ∀ A σ F H, Rel G d A0 F0 H0 A env σ F H → D.ct σ H
  | .rt t => ∀ v F H, Grow F0 H0 F H → rep G A0 F t v → D.rt v H
  | .er e env => ∀ A σ F H dx, Rel G d A0 F0 H0 A env σ F H → xrep G A0 F e dx → W (.ref (G.cl e.c)) dx σ H
  | .stuck => False
def SS (G : Ge) (d : Nat) (W : WX) (ts : TS) (s : Sx) : Prop :=
  ∀ A0 F0 H0 A env σ F H D, Rel G d A0 F0 H0 A env σ F H → OutS G d A0 F0 H0 W D (s env) → ts D σ H

section
variable {G : Ge} {d : Nat} {W : WX} {A0 A : Al} {F0 H0 F H : Hp} {env : Fv} {σ : L2.St} {D : Ends}
variable {te tk : TE} {p q : P.Ex1} {tt : TT} {b : P.Bx} {ta : TA} {a : P.Ax} {t u : TS} {s s' : Sx} {i : Nat}
theorem Rel.growF (R : Rel G d A0 F0 H0 A env σ F H) : Grow F0 H0 F H := ⟨R.exF, R.sub, R.keep, R.sep⟩
/-- an expression of the frozen part, within a statement -/
theorem Rel.run (R : Rel G d A0 F0 H0 A env σ F H) (he : SE G d W te p) {k : T → RS} {Q : VK} (o : OutS G d A0 F0 H0 W D ((p (hide env)).then_ env k))
    (h : ∀ r v F1 H1, Rel G d A0 F0 H0 A env σ F1 H1 → rep G A0 F1 r v → OutS G d A0 F0 H0 W D (k r) → Q v H1) : te σ H Q := by
  refine he A0 (hide env) σ F H Q R.reH R.sub ?_
  cases z : p (hide env) with
  | ok r => rw [z] at o; exact fun v F1 H1 g r => h _ v F1 H1 (R.grow g) r o
  | er e => rw [z] at o; exact fun dx F1 H1 g x => o A σ F1 H1 dx (R.grow g) x
  | stuck => rw [z] at o; exact o
theorem Rel.runA (R : Rel G d A0 F0 H0 A env σ F H) (he : SA G d W ta a) {k : List T → RS} {Q : List V → Hp → Prop} (o : OutS G d A0 F0 H0 W D ((a (hide env)).then_ env k))
    (h : ∀ r v F1 H1, Rel G d A0 F0 H0 A env σ F1 H1 → reps G A0 F1 r v → OutS G d A0 F0 H0 W D (k r) → Q v H1) : ta σ H Q := by
  refine he A0 (hide env) σ F H Q R.reH R.sub ?_
  cases z : a (hide env) with
  | ok r => rw [z] at o; exact fun v F1 H1 g r => h _ v F1 H1 (R.grow g) r o
  | er e => rw [z] at o; exact fun dx F1 H1 g x => o A σ F1 H1 dx (R.grow g) x
  | stuck => rw [z] at o; exact o
theorem rep.flat {A A' : Al} {F F' : Hp} {t : T} {v : V} (f : flat t = true) (h : rep G A F t v) : rep G A' F' t v := by
  cases t <;> first | exact h | cases f
theorem reps.flatAll {A A' : Al} {F F' : Hp} : ∀ {ts : List T} {vs : List V}, ts.all Py.flat = true → reps G A F ts vs → reps G A' F' ts vs
  | [], _, _, h => h
  | t :: ts, _, f, ⟨v, ws, e1, e2, e3⟩ => by
    rw [List.all_cons] at f
    obtain ⟨f1, f2⟩ := band f
    exact ⟨v, ws, e1, rep.flat f1 e2, reps.flatAll f2 e3⟩
/-- what an expression of the whole frame hands on -/
theorem Rel.outX {α β : Type} {Rp : Hp → α → β → Prop} (R : Rel G d A0 F0 H0 A env σ F H) {m : Res α} {k : α → RS} {Q : β → Hp → Prop} (o : OutS G d A0 F0 H0 W D (m.thenX env k))
    (h : ∀ r v F1 H1, Rel G d A0 F0 H0 A env σ (minus d A F1) H1 → Rp F1 r v → OutS G d A0 F0 H0 W D (k r) → Q v H1) : Outg G A (plus d A F H) H Rp Q (WE W σ) m := by
  cases m with
  | ok r => exact fun v F1 H1 g r => h _ v _ H1 (R.grow (R.low g)) r o
  | er e =>
    by_cases fe : xflat e = true
    · have o' : OutS G d A0 F0 H0 W D (if xflat e = true then .er e env else .stuck) := o
      rw [if_pos fe] at o'
      refine fun dx F1 H1 g x => o' A σ _ H1 dx (R.grow (R.low g)) ?_
      rcases x with x | ⟨dd, vs, h1, h2, h3, h4⟩
      · exact .inl x
      · refine .inr ⟨dd, vs, h1, ?_, h3, reps.flatAll fe h4⟩
        rw [minus_not fun i y => ?_]
        · exact h2
        · -- an exception's dict is none of the frame's own things
          obtain ⟨y1, y2, y3⟩ := R.own i dd y
          cases y4 : H dd with
          | none => exact y3.ne y4
          | some o4 =>
            have y5 : plus d A F H dd = some o4 := by rw [plus_own y]; exact y4
            have y6 := g.ex _ _ y5
            rw [h2] at y6
            cases y6
            rw [y4] at y3
            exact y3
    · have o' : OutS G d A0 F0 H0 W D (if xflat e = true then .er e env else .stuck) := o
      rw [if_neg fe] at o'
      exact o'.elim
  | stuck => exact o
theorem Rel.runX (R : Rel G d A0 F0 H0 A env σ F H) (he : SE G d W te p) {k : T → RS} {Q : VK} (o : OutS G d A0 F0 H0 W D ((p env).thenX env k))
    (h : ∀ r v F1 H1, Rel G d A0 F0 H0 A env σ F1 H1 → (flat r = true → rep G A0 F1 r v) → OutS G d A0 F0 H0 W D (k r) → Q v H1) : te σ H Q :=
  he A env σ _ H Q R.re R.subP (R.outX o fun r v F1 H1 R1 r1 o1 => h r v _ H1 R1 (fun f => rep.flat f r1) o1)
theorem Rel.runXA (R : Rel G d A0 F0 H0 A env σ F H) (he : SA G d W ta a) {k : List T → RS} {Q : List V → Hp → Prop} (o : OutS G d A0 F0 H0 W D ((a env).thenX env k))
    (h : ∀ r v F1 H1, Rel G d A0 F0 H0 A env σ F1 H1 → (r.all flat = true → reps G A0 F1 r v) → OutS G d A0 F0 H0 W D (k r) → Q v H1) : ta σ H Q :=
  he A env σ _ H Q R.re R.subP (R.outX o fun r v F1 H1 R1 r1 o1 => h r v _ H1 R1 (fun f => reps.flatAll f r1) o1)
theorem Rel.runT (R : Rel G d A0 F0 H0 A env σ F H) (ht : ST G d W tt b) {k : Bool → RS} {Q : Bool → Hp → Prop} (o : OutS G d A0 F0 H0 W D ((b env).thenX env k))
    (h : ∀ r F1 H1, Rel G d A0 F0 H0 A env σ F1 H1 → OutS G d A0 F0 H0 W D (k r) → Q r H1) : tt σ H Q :=
  ht A env σ _ H Q R.re R.subP (R.outX o fun r v F1 H1 R1 r1 o1 => by
    subst r1
    exact h _ _ H1 R1 o1)

/-! ### the rules -/
theorem Rel.lt (R : Rel G d A0 F0 H0 A env σ F H) {i : Nat} (hi : i < env.length) : i < σ.length := by rw [← R.len]; exact hi
theorem OutS.of_if {c : Prop} [Decidable c] {r : RS} (o : OutS G d A0 F0 H0 W D (if c then r else .stuck)) : c ∧ OutS G d A0 F0 H0 W D r := by
  by_cases h : c
  · rw [if_pos h] at o
    exact ⟨h, o⟩
  · rw [if_neg h] at o
    exact o.elim
theorem ss_asg (he : SE G d W te p) : SS G d W (tAsg te (gName i)) (S.asg i p) := fun A0 F0 H0 A env σ F H D R o =>
  R.run he o fun r v F1 H1 R1 r1 o1 => by
    obtain ⟨hi, o2⟩ := OutS.of_if o1
    obtain ⟨A', R2⟩ := R1.set r1 hi
    exact o2 A' _ F1 H1 R2
theorem ss_asgX (he : SE G d W te p) : SS G d W (tAsg te (gName i)) (S.asgX i p) := fun A0 F0 H0 A env σ F H D R o =>
  R.runX he o fun r v F1 H1 R1 r1 o1 => by
    obtain ⟨⟨hf, hi⟩, o2⟩ := OutS.of_if o1
    obtain ⟨A', R2⟩ := R1.set (r1 hf) hi
    exact o2 A' _ F1 H1 R2
theorem ss_ret (he : SE G d W te p) : SS G d W (tRet te) (S.ret p) := fun A0 F0 H0 A env σ F H D R o =>
  R.run he o fun r v F1 H1 R1 r1 o1 => o1 v F1 H1 R1.growF r1
theorem ss_retX (he : SE G d W te p) : SS G d W (tRet te) (S.retX p) := fun A0 F0 H0 A env σ F H D R o =>
  R.runX he o fun r v F1 H1 R1 r1 o1 => by
    obtain ⟨hf, o2⟩ := OutS.of_if o1
    exact o2 v F1 H1 R1.growF (r1 hf)
theorem ss_retN : SS G d W tRetN S.retN := fun A0 F0 H0 A env σ F H D R o => o .non F H R.growF rfl
theorem ss_brk : SS G d W tBreak S.brk := fun A0 F0 H0 A env σ F H D R o => o A σ F H R
theorem ss_cnt : SS G d W tCont S.cnt := fun A0 F0 H0 A env σ F H D R o => o A σ F H R
theorem ss_skip : SS G d W tNext S.skip := fun A0 F0 H0 A env σ F H D R o => o A σ F H R
theorem ss_expr (he : SE G d W te p) : SS G d W (tDrop te) (S.expr p) := fun A0 F0 H0 A env σ F H D R o =>
  R.runX he o fun r v F1 H1 R1 r1 o1 => o1 A σ F1 H1 R1
theorem ss_if (ht : ST G d W tt b) (h1 : SS G d W t s) (h2 : SS G d W u s') : SS G d W (tIfS tt t u) (S.ite b s s') := fun A0 F0 H0 A env σ F H D R o =>
  R.runT ht o fun r F1 H1 R1 o1 => by
    cases r with
    | true =>
      show t D σ H1
      exact h1 A0 F0 H0 A env σ F1 H1 D R1 o1
    | false =>
      show u D σ H1
      exact h2 A0 F0 H0 A env σ F1 H1 D R1 o1
/-- what follows is asked behind -/
theorem OutS.next {D' : Ends} {m : RS} (h : match m with | .nx env => (∀ A σ F H, Rel G d A0 F0 H0 A env σ F H → D'.nx σ H) | r => OutS G d A0 F0 H0 W D r) (hb : D'.bk = D.bk) (hc : D'.ct = D.ct) (hr : D'.rt = D.rt) : OutS G d A0 F0 H0 W D' m := by
  cases m with
  | nx env => exact h
  | rt t => exact fun v F H g r => by rw [hr]; exact h v F H g r
  | br env => exact fun A σ F H R => by rw [hb]; exact h A σ F H R
  | ct env => exact fun A σ F H R => by rw [hc]; exact h A σ F H R
  | er e env => exact h
  | stuck => exact h
theorem ss_seq (h1 : SS G d W t s) (h2 : SS G d W u s') : SS G d W (tSeq t u) (S.seq s s') := fun A0 F0 H0 A env σ F H D R o =>
  h1 A0 F0 H0 A env σ F H _ R (by
    have o' : OutS G d A0 F0 H0 W D (match s env with | .nx env => s' env | r => r) := o
    refine OutS.next (D := D) ?_ rfl rfl rfl
    cases z : s env with
    | nx env1 => rw [z] at o'; exact fun A σ F H R => h2 A0 F0 H0 A env1 σ F H D R o'
    | rt t => rw [z] at o'; exact o'
    | br env => rw [z] at o'; exact o'
    | ct env => rw [z] at o'; exact o'
    | er e env => rw [z] at o'; exact o'
    | stuck => rw [z] at o'; exact o')
theorem ss_never : SS G d W tNever (fun _ => .stuck) := fun A0 F0 H0 A env σ F H D R o => o.elim
end
end Py

set_option Elab.async false
set_option linter.all false
set_option maxRecDepth 100000
set_option maxHeartbeats 4000000
namespace Py
open PySem L2 PySem.Spec PyProof.Rows Evl

section
variable {G : Ge} {d : Nat} {W : WX} {A0 A : Al} {F0 H0 F H F1 H1 : Hp} {env : Fv} {σ : L2.St} {D : Ends}
variable {te tk : TE} {p q : P.Ex1} {tt : TT} {b : P.Bx} {ta : TA} {a : P.Ax} {t u : TS} {s s' : Sx} {i : Nat}
/-! ### a new list of the frame's own -/
def SN (G : Ge) (d : Nat) (W : WX) (te : TE) (p : Fv → Res (List T)) : Prop :=
  ∀ A env σ F H (Q : VK), RE G d A env σ F → Ex F H → Outg G A F H (fun F1 (ts : List T) (b : Addr × List V) => reps G A F1 ts b.2 ∧ F1 b.1 = none) (fun b H1 => H b.1 = none → H1 b.1 = some (.lst b.2) → Q (.ref b.1) H1) (WE W σ) (p env) → te σ H Q
def lfits (a : P.Ax) : P.Ax := fun env => (a env).bind fun xs => if lfit xs.length = true then .ok xs else .stuck
theorem sn_lst (hl : SA G d W ta a) : SN G d W (tLst ta) (lfits a) := fun A env σ F H Q R e o =>
  hl A env σ F H _ R e (by
    have o' : Outg G A F H (fun F1 (ts : List T) (b : Addr × List V) => reps G A F1 ts b.2 ∧ F1 b.1 = none) (fun b H1 => H b.1 = none → H1 b.1 = some (.lst b.2) → Q (.ref b.1) H1) (WE W σ) ((a env).bind fun xs => if lfit xs.length = true then .ok xs else .stuck) := o
    cases z : a env with
    | er e => rw [z] at o'; exact o'
    | stuck => rw [z] at o'; exact o'
    | ok xs =>
      rw [z] at o'
      intro vs F1 H1 g1 rs
      have o1 : Outg G A F H (fun F1 (ts : List T) (b : Addr × List V) => reps G A F1 ts b.2 ∧ F1 b.1 = none) (fun b H1 => H b.1 = none → H1 b.1 = some (.lst b.2) → Q (.ref b.1) H1) (WE W σ) (if lfit xs.length = true then .ok xs else .stuck) := o'
      by_cases c : lfit xs.length = true
      · rw [if_pos c] at o1
        refine ⟨by rw [rs.length]; exact of_decide_eq_true c, fun pa hp => ?_⟩
        exact o1 (pa, vs) F1 (upd H1 pa (.lst vs)) (g1.trans (Grow.junk g1.sub hp)) ⟨rs, none_of_ex g1.sub hp⟩ (none_of_ex g1.keep hp) upd_same
      · rw [if_neg c] at o1
        exact o1.elim)
/-- .. frozen at once -/
theorem SN.se {pn : Fv → Res (List T)} (h : SN G d W te pn) : SE G d W te (fun env => (pn env).bind fun ts => .ok (.lst none ts)) := fun A env σ F H Q R e o => by
  refine h A env σ F H Q R e ?_
  cases z : pn env with
  | er e => simp only [z] at o; exact o
  | stuck => simp only [z] at o; exact o
  | ok ts =>
    simp only [z] at o
    intro b F1 H1 g1 rb hp hH
    obtain ⟨rs, hF⟩ := rb
    have hF0 : F b.1 = none := none_of_ex e hp
    refine o (.ref b.1) (upd F1 b.1 (.lst b.2)) H1 ⟨g1.ex.trans (Ex.new hF), fun a x y => ?_, g1.keep, fun a h1 h2 => ?_⟩ ⟨b.1, b.2, rfl, upd_same, R.ok.new hF0, rs.mono (Ex.new hF)⟩
    · by_cases c : a = b.1
      · subst c
        rw [upd_same] at y
        rw [hH]
        exact y
      · rw [upd_ne c] at y
        exact g1.sub a x y
    · rw [upd_ne (fun c => h2 (by rw [c]; exact hp))]
      exact g1.sep a h1 h2
/-- a slot set to a new list -/
theorem Rel.setNew {ts : List T} {vs : List V} {pa : Addr} (R : Rel G d A0 F0 H0 A env σ F H) (hH : H pa = some (.lst vs)) (hF : F pa = none) (h0 : H0 pa = none) (hne : ∀ g, A g ≠ some pa) (h : reps G A0 F ts vs) (hi : i < env.length) :
    ∃ A', Rel G d A0 F0 H0 A' (env.set i (some (.ol ts))) (σ.set i (some (.ref pa))) F H := by
  refine ⟨fun g => if g = (d, i) then some pa else A g, R.ok0, R.dep0, by rw [List.length_set, List.length_set]; exact R.len, fun g z => ?_, fun g a z => ?_, fun g g' a z y => ?_, fun j a z => ?_, R.exF, R.sub, R.keep, R.sep, fun j u e => ?_, fun j u e => ?_, fun j cc ns u e => ?_⟩
  · show (if g = (d, i) then some pa else A g) = _
    rw [if_neg (fun y => by rw [y] at z; exact absurd z (Nat.lt_irrefl _))]
    exact R.agree g z
  · have z' : (if g = (d, i) then some pa else A g) = some a := z
    by_cases c : g = (d, i)
    · rw [c]; exact Nat.le_refl _
    · rw [if_neg c] at z'; exact R.dep g a z'
  · have z' : (if g = (d, i) then some pa else A g) = some a := z
    have y' : (if g' = (d, i) then some pa else A g') = some a := y
    by_cases c : g = (d, i)
    · by_cases c' : g' = (d, i)
      · rw [c, c']
      · rw [if_pos c] at z'; rw [if_neg c'] at y'
        cases z'
        exact absurd y' (hne g')
    · by_cases c' : g' = (d, i)
      · rw [if_neg c] at z'; rw [if_pos c'] at y'
        cases y'
        exact absurd z' (hne g)
      · rw [if_neg c] at z'; rw [if_neg c'] at y'; exact R.inj g g' a z' y'
  · have z' : (if (d, j) = (d, i) then some pa else A (d, j)) = some a := z
    by_cases c : (d, j) = (d, i)
    · rw [if_pos c] at z'
      cases z'
      exact ⟨hF, h0, by rw [hH]; trivial⟩
    · rw [if_neg c] at z'
      exact R.own j a z'
  · by_cases c : i = j
    · subst c
      rw [List.getElem?_set_self hi] at e
      cases e
    · rw [List.getElem?_set_ne c] at e ⊢
      exact R.fz j u e
  · by_cases c : i = j
    · subst c
      rw [List.getElem?_set_self hi] at e
      cases e
      exact ⟨pa, vs, List.getElem?_set_self (R.lt hi), if_pos rfl, hH, h⟩
    · rw [List.getElem?_set_ne c] at e ⊢
      obtain ⟨p, vs, h1, h2, h3, h4⟩ := R.ol j u e
      refine ⟨p, vs, h1, ?_, h3, h4⟩
      show (if (d, j) = (d, i) then some pa else A (d, j)) = some p
      rw [if_neg (fun y => c (Prod.mk.inj y).2.symm)]
      exact h2
  · by_cases c : i = j
    · subst c
      rw [List.getElem?_set_self hi] at e
      cases e
    · rw [List.getElem?_set_ne c] at e ⊢
      obtain ⟨p, dx, vs, h1, h2, h3, h4⟩ := R.oi j cc ns u e
      refine ⟨p, dx, vs, h1, ?_, h3, h4⟩
      show (if (d, j) = (d, i) then some pa else A (d, j)) = some p
      rw [if_neg (fun y => c (Prod.mk.inj y).2.symm)]
      exact h2
theorem Rel.noneA {pa : Addr} (R : Rel G d A0 F0 H0 A env σ F H) (hp : H pa = none) : ∀ g, A g ≠ some pa := fun g z => by
  rcases R.dep1 z with y | ⟨j, e⟩
  · exact R.ok0.al g pa y (none_of_ex (R.exF.trans R.sub) hp)
  · subst e
    exact (R.own j pa z).2.2.ne hp
theorem ss_new {pn : Fv → Res (List T)} (he : SN G d W te pn) : SS G d W (tAsg te (gName i)) (S.new i pn) := fun A0 F0 H0 A env σ F H D R o => by
  refine he A0 (hide env) σ F H _ R.reH R.sub ?_
  have o' : OutS G d A0 F0 H0 W D ((pn (hide env)).then_ env fun ts => if i < env.length then .nx (env.set i (some (.ol ts))) else .stuck) := o
  cases z : pn (hide env) with
  | ok r =>
    rw [z] at o'
    intro b F1 H1 g rb hp hH
    obtain ⟨hi, o2⟩ := OutS.of_if o'
    obtain ⟨A', R2⟩ := (R.grow g).setNew hH rb.2 (none_of_ex R.keep hp) (R.noneA hp) rb.1 hi
    exact o2 A' _ F1 _ R2
  | er e => rw [z] at o'; exact fun dx F1 H1 g x => o' A σ F1 H1 dx (R.grow g) x
  | stuck => rw [z] at o'; exact o'
/-! ### .. is frozen -/
theorem Rel.frz1 {p : Addr} {x : HO} {t : T} (R : Rel G d A0 F0 H0 A env σ F H) (hi : i < env.length) (hs : σ[i]? = some (some (.ref p))) (hA : A (d, i) = some p) (hx : H p = some x)
    (ht : ∀ F', Ex F F' → F' p = some x → (∀ g, A0 g ≠ some p) → rep G A0 F' t (.ref p)) : ∃ A' F', Rel G d A0 F0 H0 A' (env.set i (some (.fz t))) σ F' H := by
  obtain ⟨hF, hH0, hO⟩ := R.own i p hA
  have hG : Ex F (upd F p x) := Ex.new hF
  have n0 : ∀ g, A0 g ≠ some p := fun g z => by
    have z2 : A g = some p := by rw [R.agree g (R.dep0 g p z)]; exact z
    have z3 := R.inj g (d, i) p z2 hA
    have z4 := R.dep0 g p z
    rw [z3] at z4
    exact absurd z4 (Nat.lt_irrefl _)
  refine ⟨fun g => if g = (d, i) then none else A g, upd F p x, R.ok0, R.dep0, by rw [List.length_set]; exact R.len, fun g z => ?_, fun g a z => ?_, fun g g' a z y => ?_, fun j a z => ?_, R.exF.trans hG, fun a o y => ?_, R.keep, fun a h1 h2 => ?_, fun j u e => ?_, fun j u e => ?_, fun j cc ns u e => ?_⟩
  · show (if g = (d, i) then none else A g) = _
    rw [if_neg (fun y => by rw [y] at z; exact absurd z (Nat.lt_irrefl _))]
    exact R.agree g z
  · have z' : (if g = (d, i) then none else A g) = some a := z
    by_cases c : g = (d, i)
    · rw [if_pos c] at z'; cases z'
    · rw [if_neg c] at z'; exact R.dep g a z'
  · have z' : (if g = (d, i) then none else A g) = some a := z
    have y' : (if g' = (d, i) then none else A g') = some a := y
    by_cases c : g = (d, i)
    · rw [if_pos c] at z'; cases z'
    · by_cases c' : g' = (d, i)
      · rw [if_pos c'] at y'; cases y'
      · rw [if_neg c] at z'; rw [if_neg c'] at y'; exact R.inj g g' a z' y'
  · have z' : (if (d, j) = (d, i) then none else A (d, j)) = some a := z
    by_cases c : (d, j) = (d, i)
    · rw [if_pos c] at z'; cases z'
    · rw [if_neg c] at z'
      obtain ⟨h1, h2, h3⟩ := R.own j a z'
      refine ⟨?_, h2, h3⟩
      rw [upd_ne (fun y => c (by rw [y] at z'; exact R.inj _ _ _ z' hA))]
      exact h1
  · by_cases c : a = p
    · subst c
      rw [upd_same] at y
      rw [hx]
      exact y
    · rw [upd_ne c] at y
      exact R.sub a o y
  · by_cases c : a = p
    · subst c
      exact absurd hH0 h2
    · rw [upd_ne c]
      exact R.sep a h1 h2
  · by_cases c : i = j
    · subst c
      rw [List.getElem?_set_self hi] at e
      cases e
      exact ⟨_, hs, ht _ hG upd_same n0⟩
    · rw [List.getElem?_set_ne c] at e
      obtain ⟨v, h1, h2⟩ := R.fz j u e
      exact ⟨v, h1, h2.mono hG⟩
  · by_cases c : i = j
    · subst c
      rw [List.getElem?_set_self hi] at e
      cases e
    · rw [List.getElem?_set_ne c] at e
      obtain ⟨p2, vs, h1, h2, h3, h4⟩ := R.ol j u e
      refine ⟨p2, vs, h1, ?_, h3, h4.mono hG⟩
      show (if (d, j) = (d, i) then none else A (d, j)) = some p2
      rw [if_neg (fun y => c (Prod.mk.inj y).2.symm)]
      exact h2
  · by_cases c : i = j
    · subst c
      rw [List.getElem?_set_self hi] at e
      cases e
    · rw [List.getElem?_set_ne c] at e
      obtain ⟨p2, dx, vs, h1, h2, h3, h5, h4⟩ := R.oi j cc ns u e
      refine ⟨p2, dx, vs, h1, ?_, h3, h5, h4.mono hG⟩
      show (if (d, j) = (d, i) then none else A (d, j)) = some p2
      rw [if_neg (fun y => c (Prod.mk.inj y).2.symm)]
      exact h2
theorem get_lt {env : Fv} {i : Nat} {x : Option Sl} (h : env[i]? = some x) : i < env.length := (List.getElem?_eq_some_iff.mp h).1
theorem ss_frz (h : SS G d W t s) : SS G d W t (S.frz i s) := fun A0 F0 H0 A env σ F H D R o => by
  unfold S.frz at o
  split at o
  · rename_i ts e
    obtain ⟨p, vs, h1, h2, h3, h4⟩ := R.ol i ts e
    obtain ⟨A', F', R'⟩ := R.frz1 (t := .lst none ts) (get_lt e) h1 h2 h3 fun F' eF hF n0 => ⟨p, vs, rfl, hF, n0, h4.mono eF⟩
    exact h A0 F0 H0 A' _ σ F' H D R' o
  · rename_i c ns ts e
    obtain ⟨p, dx, vs, h1, h2, h3, h5, h4⟩ := R.oi i c ns ts e
    obtain ⟨A', F', R'⟩ := R.frz1 (t := .ins none c ns ts) (get_lt e) h1 h2 h3 fun F' eF hF n0 => ⟨p, dx, vs, rfl, hF, h5, n0, h4.mono eF⟩
    exact h A0 F0 H0 A' _ σ F' H D R' o
  · exact h A0 F0 H0 A env σ F H D R o
/-! ### .. is changed -/
theorem Rel.wr {p : Addr} {ts us : List T} {ws : List V} (R : Rel G d A0 F0 H0 A env σ F H) (e : env[i]? = some (some (.ol ts))) (hs : σ[i]? = some (some (.ref p))) (hA : A (d, i) = some p) (h : reps G A0 F us ws) :
    Rel G d A0 F0 H0 A (env.set i (some (.ol us))) σ F (upd H p (.lst ws)) where
  ok0 := R.ok0
  dep0 := R.dep0
  len := by rw [List.length_set]; exact R.len
  agree := R.agree
  dep := R.dep
  inj := R.inj
  own := fun j a z => by
    obtain ⟨h1, h2, h3⟩ := R.own j a z
    refine ⟨h1, h2, ?_⟩
    by_cases c : a = p
    · rw [c, upd_same]; trivial
    · rw [upd_ne c]; exact h3
  exF := R.exF
  sub := fun a o y => by
    have c : a ≠ p := fun c => by
      rw [c, (R.own i p hA).1] at y
      cases y
    rw [upd_ne c]
    exact R.sub a o y
  keep := fun a o y => by
    have c : a ≠ p := fun c => by
      rw [c, (R.own i p hA).2.1] at y
      cases y
    rw [upd_ne c]
    exact R.keep a o y
  sep := R.sep
  fz := fun j u y => by
    by_cases c : i = j
    · subst c
      rw [List.getElem?_set_self (get_lt e)] at y
      cases y
    · rw [List.getElem?_set_ne c] at y
      exact R.fz j u y
  ol := fun j u y => by
    by_cases c : i = j
    · subst c
      rw [List.getElem?_set_self (get_lt e)] at y
      cases y
      exact ⟨p, ws, hs, hA, upd_same, h⟩
    · rw [List.getElem?_set_ne c] at y
      obtain ⟨p2, vs, h1, h2, h3, h4⟩ := R.ol j u y
      refine ⟨p2, vs, h1, h2, ?_, h4⟩
      rw [upd_ne (fun z => c (by rw [z] at h2; exact (Prod.mk.inj (R.inj _ _ _ h2 hA)).2.symm))]
      exact h3
  oi := fun j cc ns u y => by
    by_cases c : i = j
    · subst c
      rw [List.getElem?_set_self (get_lt e)] at y
      cases y
    · rw [List.getElem?_set_ne c] at y
      obtain ⟨p2, dx, vs, h1, h2, h3, h5, h4⟩ := R.oi j cc ns u y
      refine ⟨p2, dx, vs, h1, h2, ?_, h5, h4⟩
      rw [upd_ne (fun z => c (by rw [z] at h2; exact (Prod.mk.inj (R.inj _ _ _ h2 hA)).2.symm))]
      exact h3
theorem rd_ol {env : Fv} {ts : List T} (e : env[i]? = some (some (.ol ts))) : rd d i env = some (.lst (some (d, i)) ts) := by
  unfold rd
  rw [e]
theorem ss_app (he : SE G d W te p) : SS G d W (tDrop (tBM G.K "list" rAppend (tVar i) (tCons te tNil))) (S.app i p) := fun A0 F0 H0 A env σ F H D R o => by
  unfold S.app at o
  split at o
  · rename_i ts e
    obtain ⟨pa, vs, h1, h2, h3, h4⟩ := R.ol i ts e
    refine ⟨_, h1, Or.inl ⟨rfl, vs, SqL.of h3⟩, R.run he o fun r v F1 H1 R1 r1 o1 => ?_⟩
    obtain ⟨hz, o2⟩ := OutS.of_if o1
    obtain ⟨pb, vs1, k1, k2, k3, k4⟩ := R1.ol i ts e
    rw [h1] at k1
    cases k1
    refine ⟨_, vs1, v, rfl, rfl, k3, by rw [k4.length]; exact hz, ?_⟩
    exact o2 _ _ _ _ (R1.wr e h1 k2 (k4.append (reps.one r1)))
  · exact o.elim
theorem ss_appX (he : SE G d W te p) : SS G d W (tDrop (tBM G.K "list" rAppend (tVar i) (tCons te tNil))) (S.appX i p) := fun A0 F0 H0 A env σ F H D R o => by
  unfold S.appX at o
  split at o
  · rename_i ts e
    obtain ⟨pa, vs, h1, h2, h3, h4⟩ := R.ol i ts e
    refine ⟨_, h1, Or.inl ⟨rfl, vs, SqL.of h3⟩, R.runX he o fun r v F1 H1 R1 r1 o1 => ?_⟩
    obtain ⟨⟨hf, hz⟩, o2⟩ := OutS.of_if o1
    obtain ⟨pb, vs1, k1, k2, k3, k4⟩ := R1.ol i ts e
    rw [h1] at k1
    cases k1
    refine ⟨_, vs1, v, rfl, rfl, k3, by rw [k4.length]; exact hz, ?_⟩
    exact o2 _ _ _ _ (R1.wr e h1 k2 (k4.append (reps.one (r1 hf))))
  · exact o.elim
theorem ixN_len {n m : Nat} {z : Int} (h : ixN n z = some m) : m < n := (ixN_seq h).2.1
theorem ss_setX (he : SE G d W te p) (hk : SE G d W tk q) : SS G d W (tAsg te (gSub (tVar i) tk rSetL)) (S.setX i q p) := fun A0 F0 H0 A env σ F H D R o => by
  unfold S.setX at o
  split at o
  · rename_i ts e
    refine R.runX he o fun r v F1 H1 R1 r1 o1 => ?_
    obtain ⟨pb, vs1, k1, k2, k3, k4⟩ := R1.ol i ts e
    refine ⟨_, k1, R1.runX hk o1 fun j w F2 H2 R2 r2 o2 => ?_⟩
    cases j <;> (try exact o2.elim)
    rename_i z
    have hw : w = .int z := r2 rfl
    subst hw
    obtain ⟨pc, vs2, l1, l2, l3, l4⟩ := R2.ol i ts e
    rw [k1] at l1
    cases l1
    have o3 : OutS G d A0 F0 H0 W D (match ixN ts.length z with | some m => if flat r = true then .nx (env.set i (some (.ol (ts.set m r)))) else .stuck | none => .stuck) := o2
    cases hm : ixN ts.length z with
    | none => rw [hm] at o3; exact o3.elim
    | some m =>
      rw [hm] at o3
      obtain ⟨hf, o4⟩ := OutS.of_if o3
      refine ⟨_, vs2, z, m, rfl, rfl, l3, by rw [l4.length]; exact hm, ?_⟩
      exact o4 _ _ _ _ (R2.wr e k1 l2 (l4.set m (rep.flat hf (r1 hf))))
  · exact o.elim
/-! ### loops -/
theorem Rel.rebase {Fx : Hp} (R : Rel G d A0 F0 H0 A env σ F H) (e1 : Ex F0 Fx) (e2 : Ex Fx F) : Rel G d A0 Fx H0 A env σ F H :=
  ⟨R.ok0.mono e1, R.dep0, R.len, R.agree, R.dep, R.inj, R.own, e2, R.sub, R.keep, fun a h1 h2 => R.sep a (none_of_ex e1 h1) h2, R.fz, R.ol, R.oi⟩
theorem Rel.unbase {Fx : Hp} (R : Rel G d A0 Fx H0 A env σ F H) (ok : AOk A0 F0) (e1 : Ex F0 Fx) (sp : ∀ a, F0 a = none → H0 a ≠ none → Fx a = none) : Rel G d A0 F0 H0 A env σ F H :=
  ⟨ok, R.dep0, R.len, R.agree, R.dep, R.inj, R.own, e1.trans R.exF, R.sub, R.keep, fun a h1 h2 => R.sep a (sp a h1 h2) h2, R.fz, R.ol, R.oi⟩
theorem OutS.rebase {Fx : Hp} {m : RS} (ok : AOk A0 F0) (e1 : Ex F0 Fx) (sp : ∀ a, F0 a = none → H0 a ≠ none → Fx a = none) (o : OutS G d A0 F0 H0 W D m) : OutS G d A0 Fx H0 W D m := by
  cases m with
  | nx env => exact fun A σ F H R => o A σ F H (R.unbase ok e1 sp)
  | br env => exact fun A σ F H R => o A σ F H (R.unbase ok e1 sp)
  | ct env => exact fun A σ F H R => o A σ F H (R.unbase ok e1 sp)
  | er e env => exact fun A σ F H dx R x => o A σ F H dx (R.unbase ok e1 sp) x
  | rt t => exact fun v F H g r => o v F H ⟨e1.trans g.ex, g.sub, g.keep, fun a h1 h2 => g.sep a (sp a h1 h2) h2⟩ r
  | stuck => exact o
/-- what a target does -/
def SG (G : Ge) (d : Nat) (g : TG) (tg : T → Fv → Option Fv) : Prop :=
  ∀ A0 F0 H0 A env σ F H t v env1 (Q : L2.St → Hp → Prop), Rel G d A0 F0 H0 A env σ F H → rep G A0 F t v → tg t env = some env1 → (∀ A' σ', Rel G d A0 F0 H0 A' env1 σ' F H → Q σ' H) → g v σ H Q
theorem sg_name : SG G d (gName i) (S.tName i) := fun A0 F0 H0 A env σ F H t v env1 Q R r e k => by
  unfold S.tName at e
  by_cases hi : i < env.length
  · rw [if_pos hi] at e
    cases e
    obtain ⟨A', R'⟩ := R.set r hi
    exact k A' _ R'
  · rw [if_neg hi] at e
    cases e
def SGs (G : Ge) (d : Nat) (g : TGs) (gs : List (T → Fv → Option Fv)) : Prop :=
  ∀ A0 F0 H0 A env σ F H ts vs env1 (Q : L2.St → Hp → Prop), Rel G d A0 F0 H0 A env σ F H → reps G A0 F ts vs → S.tNames gs ts env = some env1 → (∀ A' σ', Rel G d A0 F0 H0 A' env1 σ' F H → Q σ' H) → g vs σ H Q
theorem sgs_nil : SGs G d gNil [] := fun A0 F0 H0 A env σ F H ts vs env1 Q R r e k => by
  cases ts with
  | nil =>
    have r' : vs = [] := r
    cases e
    exact ⟨r', k A σ R⟩
  | cons _ _ => cases e
theorem sgs_cons {g : TG} {gg : TGs} {tg : T → Fv → Option Fv} {tgs : List (T → Fv → Option Fv)} (h1 : SG G d g tg) (h2 : SGs G d gg tgs) : SGs G d (gCons g gg) (tg :: tgs) := fun A0 F0 H0 A env σ F H ts vs env1 Q R r e k => by
  cases ts with
  | nil => cases e
  | cons t ts =>
    obtain ⟨v, ws, rfl, r1, r2⟩ := r
    obtain ⟨env2, e1, e2⟩ := Option.bind_eq_some_iff.mp (show (tg t env).bind (fun env => S.tNames tgs ts env) = some env1 from e)
    exact ⟨v, ws, rfl, h1 A0 F0 H0 A env σ F H t v env2 _ R r1 e1 fun A' σ' R' => h2 A0 F0 H0 A' env2 σ' F H ts ws env1 Q R' r2 e2 k⟩
theorem sg_tup {n : Nat} {gg : TGs} {tgs : List (T → Fv → Option Fv)} (h : SGs G d gg tgs) (hn : n = tgs.length) : SG G d (gTup G.K n gg) (S.tTup tgs) := fun A0 F0 H0 A env σ F H t v env1 Q R r e k => by
  cases t <;> (try cases e)
  rename_i ts
  obtain ⟨a, vs, rfl, h1, h2⟩ := r
  have e' : S.tNames tgs ts env = some env1 := e
  have hl : ∀ (tgs : List (T → Fv → Option Fv)) (ts : List T) (env : Fv), S.tNames tgs ts env = some env1 → ts.length = tgs.length := by
    intro tgs
    induction tgs with
    | nil =>
      intro ts env e
      cases ts with
      | nil => rfl
      | cons _ _ => cases e
    | cons tg tgs ih =>
      intro ts env e
      cases ts with
      | nil => cases e
      | cons t ts =>
        obtain ⟨env2, e1, e2⟩ := Option.bind_eq_some_iff.mp (show (tg t env).bind (fun env => S.tNames tgs ts env) = some env1 from e)
        rw [List.length_cons, List.length_cons, ih ts env2 e2]
  exact ⟨a, vs, rfl, ex_t R.sub h1, by rw [h2.length, hn]; exact hl tgs ts env e', h A0 F0 H0 A env σ F H ts vs env1 Q R h2 e' k⟩
theorem ss_unp {g : TG} {tg : T → Fv → Option Fv} (he : SE G d W te p) (hg : SG G d g tg) : SS G d W (tAsg te g) (S.unp tg p) := fun A0 F0 H0 A env σ F H D R o =>
  R.run he o fun r v F1 H1 R1 r1 o1 => by
    cases z : tg r env with
    | none =>
      simp only [z] at o1
      exact o1.elim
    | some env1 =>
      simp only [z] at o1
      exact hg A0 F0 H0 A env σ F1 H1 r v env1 D.nx R1 r1 z fun A' σ' R' => o1 A' σ' F1 H1 R'
/-- what is walked -/
structure ItIs (G : Ge) (A : Al) (Fx : Hp) (ts : List T) (J : It) : Prop where
  go : ∀ i H, Ex Fx H → i < ts.length → J.go i H
  stop : ∀ i H, Ex Fx H → ts.length ≤ i → J.stop i H
  yld : ∀ i F H x H' t, Ex Fx F → Ex F H → ts[i]? = some t → J.yld i H x H' → ∃ F', Grow F H F' H' ∧ rep G A F' t x
def SI (G : Ge) (d : Nat) (W : WX) (wi : TI) (p : Fv → Res (List T)) : Prop :=
  ∀ A env σ F H Q, RE G d A env σ F → Ex F H → Outg G A F H (ItIs G A) Q (WE W σ) (p env) → wi σ H Q
def LoopAt (G : Ge) (d : Nat) (A0 : Al) (Fx H0 : Hp) (W : WX) (D : Ends) (tg : T → Fv → Option Fv) (s : Sx) (ts : List T) (k : Nat) (σ : L2.St) (H : Hp) : Prop :=
  ∃ A env F, Rel G d A0 Fx H0 A env σ F H ∧ OutS G d A0 Fx H0 W D (S.turns tg s (ts.drop k) env)
theorem ItIs.loop {tg : T → Fv → Option Fv} {g : TG} {ts : List T} {J : It} {Fx : Hp} (hJ : ItIs G A0 Fx ts J) (hg : SG G d g tg) (hb : SS G d W t s) (h : LoopAt G d A0 Fx H0 W D tg s ts 0 σ H) :
    ∃ Wf : Nat → Nat → L2.St → Hp → Prop, (∃ m, Wf 0 m σ H) ∧ ∀ i m σ H, Wf i m σ H →
      (J.stop i H ∧ D.nx σ H) ∨ (J.go i H ∧ ∃ N : L2.St → Hp → Prop, (∀ σ' H', N σ' H' → ∃ m', m' < m ∧ Wf (i + 1) m' σ' H') ∧ ∀ x H', J.yld i H x H' → g x σ H' fun σ2 H2 => t { D with nx := N, ct := N, bk := D.nx } σ2 H2) := by
  refine ⟨fun i m σ H => m = ts.length - i ∧ i ≤ ts.length ∧ LoopAt G d A0 Fx H0 W D tg s ts i σ H, ⟨ts.length, by simp, Nat.zero_le _, h⟩, ?_⟩
  rintro i m σ H ⟨rfl, hi, A, env, F, R, o⟩
  have eH : Ex Fx H := R.exF.trans R.sub
  by_cases hlt : i < ts.length
  · refine .inr ⟨hJ.go i H eH hlt, LoopAt G d A0 Fx H0 W D tg s ts (i + 1), fun σ' H' p' => ⟨ts.length - (i + 1), by omega, rfl, hlt, p'⟩, fun x H' y => ?_⟩
    have hx : ts[i]? = some ts[i] := List.getElem?_eq_getElem hlt
    obtain ⟨F', gr, rx⟩ := hJ.yld i F H x H' _ R.exF R.sub hx y
    have R1 := R.grow gr
    rw [List.drop_eq_getElem_cons hlt] at o
    have o' : OutS G d A0 Fx H0 W D (match tg ts[i] env with
      | some env1 => (match s env1 with
        | .nx env => S.turns tg s (ts.drop (i + 1)) env
        | .ct env => S.turns tg s (ts.drop (i + 1)) env
        | .br env => .nx env
        | r => r)
      | none => .stuck) := o
    cases z : tg ts[i] env with
    | none => rw [z] at o'; exact o'.elim
    | some env1 =>
      rw [z] at o'
      refine hg A0 Fx H0 A env σ F' H' _ x env1 _ R1 rx z fun A' σ' R' => hb A0 Fx H0 A' env1 σ' F' H' _ R' ?_
      cases z2 : s env1 with
      | nx e1 => simp only [z2] at o'; exact fun A σ F H R => ⟨A, e1, F, R, o'⟩
      | ct e1 => simp only [z2] at o'; exact fun A σ F H R => ⟨A, e1, F, R, o'⟩
      | br e1 => simp only [z2] at o'; exact fun A σ F H R => o' A σ F H R
      | rt t => simp only [z2] at o'; exact o'
      | er e e1 => simp only [z2] at o'; exact o'
      | stuck => simp only [z2] at o'; exact o'
  · have e : i = ts.length := by omega
    subst e
    rw [List.drop_eq_nil_of_le (Nat.le_refl _)] at o
    exact .inl ⟨hJ.stop _ H eH (Nat.le_refl _), o A σ F H R⟩
theorem ss_for {wi : TI} {g : TG} {tg : T → Fv → Option Fv} {pi : Fv → Res (List T)} (hi : SI G d W wi pi) (hg : SG G d g tg) (hb : SS G d W t s) : SS G d W (tFor wi g t) (S.for_ tg pi s) := fun A0 F0 H0 A env σ F H D R o => by
  refine hi A0 (hide env) σ F H _ R.reH R.sub ?_
  have o' : OutS G d A0 F0 H0 W D ((pi (hide env)).then_ env fun ts => S.turns tg s ts env) := o
  cases z : pi (hide env) with
  | er e => rw [z] at o'; exact fun dx F1 H1 g x => o' A σ F1 H1 dx (R.grow g) x
  | stuck => rw [z] at o'; exact o'
  | ok ts =>
    rw [z] at o'
    intro J F1 H1 gr hJ
    have R1 := R.grow gr
    have R2 := R1.rebase R1.exF (Ex.refl _)
    exact hJ.loop hg hb ⟨A, env, F1, R2, o'.rebase R.ok0 R1.exF R1.sep⟩
/-- the numbers of a range do not hang on the frame's own things -/
theorem ItIs.flat {A A' : Al} {Fx : Hp} {J : It} {ts : List T} (f : ts.all Py.flat = true) (h : ItIs G A Fx ts J) (e : Ex F Fx) (hl : ∀ i H x H' , J.yld i H x H' → H' = H) (hgo : ∀ i H, i < ts.length → J.go i H) (hst : ∀ i H, ts.length ≤ i → J.stop i H)
    (hv : ∀ i H x H' t, ts[i]? = some t → J.yld i H x H' → ∀ F, rep G A F t x) : ItIs G A' F ts J where
  go := fun i H _ => hgo i H
  stop := fun i H _ => hst i H
  yld := fun i F H x H' t _ e2 ht y => by
    have e := hl i H x H' y
    subst e
    exact ⟨F, Grow.refl e2, rep.flat (List.all_eq_true.mp f t (List.mem_of_getElem? ht)) (hv i _ x _ t ht y F)⟩
/-- whatever is walked without the heap -/
structure ItF (G : Ge) (ts : List T) (J : It) : Prop where
  go : ∀ i H, i < ts.length → J.go i H
  stop : ∀ i H, ts.length ≤ i → J.stop i H
  yld : ∀ i H x H' t, ts[i]? = some t → J.yld i H x H' → H' = H ∧ ∀ A F, rep G A F t x
theorem ItF.is {ts : List T} {J : It} (h : ItF G ts J) : ItIs G A F ts J :=
  ⟨fun i H _ => h.go i H, fun i H _ => h.stop i H, fun i F H x H' t _ e ht y => by
    obtain ⟨e1, r⟩ := h.yld i H x H' t ht y
    subst e1
    exact ⟨F, Grow.refl e, r A F⟩⟩
def SIF (G : Ge) (d : Nat) (W : WX) (wi : TI) (p : Fv → Res (List T)) : Prop :=
  ∀ A env σ F H Q, RE G d A env σ F → Ex F H → Outg G A F H (fun _ => ItF G) Q (WE W σ) (p env) → wi σ H Q
theorem SIF.si {wi : TI} {p : Fv → Res (List T)} (h : SIF G d W wi p) : SI G d W wi p := fun A env σ F H Q R e o => h A env σ F H Q R e (by
  cases z : p env with
  | ok ts => rw [z] at o; exact fun J F1 H1 g r => o J F1 H1 g r.is
  | er e => rw [z] at o; exact o
  | stuck => rw [z] at o; exact o)
theorem ss_forX {wi : TI} {g : TG} {tg : T → Fv → Option Fv} {pi : Fv → Res (List T)} (hi : SIF G d W wi pi) (hg : SG G d g tg) (hb : SS G d W t s) : SS G d W (tFor wi g t) (S.forX tg pi s) := fun A0 F0 H0 A env σ F H D R o => by
  refine hi A env σ _ H _ R.re R.subP (R.outX (k := fun ts => if ts.all Py.flat = true then S.turns tg s ts env else .stuck) o fun ts J F1 H1 R1 hJ o1 => ?_)
  obtain ⟨_, o2⟩ := OutS.of_if o1
  have R2 := R1.rebase R1.exF (Ex.refl _)
  exact hJ.is.loop hg hb ⟨A, env, _, R2, o2.rebase R.ok0 R1.exF R1.sep⟩
/-! ### a while -/
theorem while_at {n : Nat} (ht : ST G d W tt b) (hb : SS G d W t s) (R : Rel G d A0 F0 H0 A env σ F H) (o : OutS G d A0 F0 H0 W D (S.while_ b s n env)) : tWhile tt t D σ H := by
  refine ⟨fun n σ H => ∃ A env F, Rel G d A0 F0 H0 A env σ F H ∧ OutS G d A0 F0 H0 W D (S.while_ b s n env), ⟨n, A, env, F, R, o⟩, ?_⟩
  rintro n σ H ⟨A, env, F, R, o⟩
  cases n with
  | zero => exact o.elim
  | succ n =>
    refine R.runT ht o fun r F1 H1 R1 o1 => ?_
    cases r with
    | false => exact o1 A σ F1 H1 R1
    | true =>
      show ∃ N : L2.St → Hp → Prop, (∀ σ' H', N σ' H' → ∃ m', m' < n + 1 ∧ _) ∧ _
      refine ⟨fun σ H => ∃ A env F, Rel G d A0 F0 H0 A env σ F H ∧ OutS G d A0 F0 H0 W D (S.while_ b s n env), fun σ' H' p => ⟨n, Nat.lt_succ_self n, p⟩, hb A0 F0 H0 A env σ F1 H1 _ R1 ?_⟩
      have o2 : OutS G d A0 F0 H0 W D (match s env with
        | .nx env => S.while_ b s n env
        | .ct env => S.while_ b s n env
        | .br env => .nx env
        | r => r) := o1
      cases z2 : s env with
      | nx e1 => simp only [z2] at o2; exact fun A σ F H R => ⟨A, e1, F, R, o2⟩
      | ct e1 => simp only [z2] at o2; exact fun A σ F H R => ⟨A, e1, F, R, o2⟩
      | br e1 => simp only [z2] at o2; exact fun A σ F H R => o2 A σ F H R
      | rt t => simp only [z2] at o2; exact o2
      | er e e1 => simp only [z2] at o2; exact o2
      | stuck => simp only [z2] at o2; exact o2
theorem ss_while {n : Nat} (ht : ST G d W tt b) (hb : SS G d W t s) : SS G d W (tWhile tt t) (S.while_ b s n) := fun A0 F0 H0 A env σ F H D R o => while_at ht hb R o
end
/-! ### what is walked -/
section
variable {G : Ge} {d : Nat} {W : WX} {A : Al} {F H : Hp} {te : TE} {p : P.Ex1} {ta : TA} {a : P.Ax}
def rng (lo : Int) (n : Nat) : List T := (List.range n).map fun (k : Nat) => .int (lo + (k : Int))
theorem itF_rng {lo : Int} {n : Nat} : ItF G (rng lo n) (Itr lo n) where
  go := fun i H h => by
    unfold rng at h
    rw [List.length_map, List.length_range] at h
    exact h
  stop := fun i H h => by
    unfold rng at h
    rw [List.length_map, List.length_range] at h
    exact h
  yld := fun i H x H' t ht y => by
    obtain ⟨e1, e2⟩ := y
    refine ⟨e1, fun A F => ?_⟩
    unfold rng at ht
    rw [List.getElem?_map] at ht
    cases q : (List.range n)[i]? with
    | none => rw [q] at ht; cases ht
    | some k =>
      rw [q] at ht
      cases ht
      obtain ⟨_, e3⟩ := List.getElem?_eq_some_iff.mp q
      rw [List.getElem_range] at e3
      subst e3
      exact e2
def rfit (i : Int) : Bool := decide (-(2 ^ 62) ≤ i) && decide (i < 2 ^ 62)
def P.rng1 (a : P.Ax) : Fv → Res (List T) := fun env => (a env).bind fun
  | [.int n] => if rfit n = true then .ok (rng 0 n.toNat) else .stuck
  | _ => .stuck
def P.rng2 (a : P.Ax) : Fv → Res (List T) := fun env => (a env).bind fun
  | [.int m, .int n] => if (rfit m && rfit n) = true then .ok (rng m (n - m).toNat) else .stuck
  | _ => .stuck
theorem Outg.if_ {α β : Type} {R : Hp → α → β → Prop} {Q : β → Hp → Prop} {E : XK} {c : Prop} [Decidable c] {m : Res α} (o : Outg G A F H R Q E (if c then m else .stuck)) : c ∧ Outg G A F H R Q E m := by
  by_cases h : c
  · rw [if_pos h] at o
    exact ⟨h, o⟩
  · rw [if_neg h] at o
    exact o.elim
theorem sif_rng1 (ha : SA G d W ta a) : SIF G d W (iRng1 ta) (P.rng1 a) := fun A env σ F H Q R e o =>
  ha A env σ F H _ R e (Outg.bind o fun xs vs F1 H1 g1 rs o1 => by
    match xs, rs, o1 with
    | [.int n], rs, o1 =>
      obtain ⟨v, ws, rfl, r1, r2⟩ := rs
      have r1' : v = .int n := r1
      have r2' : ws = [] := r2
      subst r1' r2'
      obtain ⟨c, o2⟩ := Outg.if_ o1
      obtain ⟨c1, c2⟩ := band c
      exact ⟨n, rfl, of_decide_eq_true c1, of_decide_eq_true c2, o2 _ F1 H1 (Grow.refl g1.sub) itF_rng⟩
    | [], _, o1 => exact o1.elim
    | .non :: _, _, o1 => exact o1.elim
    | .bl _ :: _, _, o1 => exact o1.elim
    | .str _ :: _, _, o1 => exact o1.elim
    | .lst _ _ :: _, _, o1 => exact o1.elim
    | .tup _ :: _, _, o1 => exact o1.elim
    | .ro _ :: _, _, o1 => exact o1.elim
    | .ins _ _ _ _ :: _, _, o1 => exact o1.elim
    | .exn _ _ _ :: _, _, o1 => exact o1.elim
    | .int _ :: _ :: _, _, o1 => exact o1.elim)
theorem sif_rng2 (ha : SA G d W ta a) : SIF G d W (iRng2 ta) (P.rng2 a) := fun A env σ F H Q R e o =>
  ha A env σ F H _ R e (Outg.bind o fun xs vs F1 H1 g1 rs o1 => by
    split at o1
    · rename_i m n
      obtain ⟨v, ws, rfl, r1, v2, ws2, rfl, r2, r3⟩ := rs
      have r1' : v = .int m := r1
      have r2' : v2 = .int n := r2
      have r3' : ws2 = [] := r3
      subst r1' r2' r3'
      obtain ⟨c, o2⟩ := Outg.if_ o1
      obtain ⟨c1, c2⟩ := band c
      obtain ⟨c3, c4⟩ := band c1
      obtain ⟨c5, c6⟩ := band c2
      exact ⟨m, n, rfl, ⟨of_decide_eq_true c3, of_decide_eq_true c4, of_decide_eq_true c5, of_decide_eq_true c6⟩, o2 _ F1 H1 (Grow.refl g1.sub) itF_rng⟩
    · exact o1.elim)
/-- a list or a tuple -/
def iSeq (K : PySem.W.Frag) (tl : TE) : TI := fun σ H R => tl σ H fun x H1 => ∃ a, x = .ref a ∧ (((∃ xs, SqL K H1 a xs) ∧ R (Itl K a) H1) ∨ ((∃ xs, SqT K H1 a xs) ∧ R (Itt K a) H1))
theorem pi_seq {X : Cx} {tg l : Expr} {tl : TE} (hl : PE X l tl) : PI X tg l (iSeq X.K tl) := by
  refine ⟨fun pins s σ H R I h => ?_⟩
  refine thn (hl.run pins s σ H _ I h) fun v s1 ⟨x, H1, I1, r1, q1⟩ => ?_
  obtain ⟨a, e, q1⟩ := q1
  subst e
  cases r1
  rcases q1 with ⟨⟨xs, hq⟩, q⟩ | ⟨⟨xs, hq⟩, q⟩
  · obtain ⟨its, rv, p, hz⟩ := I1.list hq
    refine wpAny_pyIter_list p.isList ?_
    refine ⟨s1.heap.objs.size, [s1.heap.objs.size], _, _, H1, rfl, I1.kept (t' := s1.toks) fun b o e => Heap.get?_push_of_some _ e, turn_list a _, ⟨_, Heap.get?_push_size _ rfl, rfl, rfl⟩, fun b hb => ?_, q⟩
    have e : b = s1.heap.objs.size := by simpa using hb
    subst e
    exact I1.fpOk (Nat.le_refl _) (I1.hok.fresh (Nat.le_refl _))
  · obtain ⟨its, rv, p, hz⟩ := I1.tuple hq
    refine wpAny_pyIter_tuple (show s1.heap.IsTuple a its.toArray from p) ?_
    refine ⟨s1.heap.objs.size, [s1.heap.objs.size], _, _, H1, rfl, I1.kept (t' := s1.toks) fun b o e => Heap.get?_push_of_some _ e, turn_tuple a _, ⟨_, Heap.get?_push_size _ rfl, rfl, rfl⟩, fun b hb => ?_, q⟩
    have e : b = s1.heap.objs.size := by simpa using hb
    subst e
    exact I1.fpOk (Nat.le_refl _) (I1.hok.fresh (Nat.le_refl _))
def P.items (p : P.Ex1) : Fv → Res (List T) := fun env => (p env).bind fun t => .of t.items
theorem itIs_list {a : Addr} {vs : List V} {ts : List T} (h : SqL G.K F a vs) (r : reps G A F ts vs) : ItIs G A F ts (Itl G.K a) where
  go := fun i H e hi => ⟨vs, vs[i]'(by rw [r.length]; exact hi), ex_l e h, List.getElem?_eq_getElem _⟩
  stop := fun i H e hi => ⟨vs, ex_l e h, by rw [r.length]; exact hi⟩
  yld := fun i F1 H x H' t e1 e2 ht y => by
    obtain ⟨e3, y⟩ := y
    subst e3
    obtain ⟨v, hv, rv⟩ := r.get ht
    have hx := y vs (ex_l (e1.trans e2) h)
    rw [hv] at hx
    cases hx
    exact ⟨F1, Grow.refl e2, rv.mono e1⟩
theorem itIs_tup {a : Addr} {vs : List V} {ts : List T} (h : SqT G.K F a vs) (r : reps G A F ts vs) : ItIs G A F ts (Itt G.K a) where
  go := fun i H e hi => ⟨vs, vs[i]'(by rw [r.length]; exact hi), ex_t e h, List.getElem?_eq_getElem _⟩
  stop := fun i H e hi => ⟨vs, ex_t e h, by rw [r.length]; exact hi⟩
  yld := fun i F1 H x H' t e1 e2 ht y => by
    obtain ⟨e3, y⟩ := y
    subst e3
    obtain ⟨v, hv, rv⟩ := r.get ht
    have hx := y vs (ex_t (e1.trans e2) h)
    rw [hv] at hx
    cases hx
    exact ⟨F1, Grow.refl e2, rv.mono e1⟩
theorem si_seq (he : SE G d W te p) : SI G d W (iSeq G.K te) (P.items p) := fun A env σ F H Q R e o =>
  he A env σ F H _ R e (Outg.bind o fun x v F1 H1 g1 rx o1 => by
    cases z : x.items with
    | none => rw [z] at o1; exact o1.elim
    | some ts =>
      rw [z] at o1
      obtain ⟨a, vs, rfl, s, r⟩ := items_of rx z
      rcases s with s | s
      · exact ⟨a, rfl, .inl ⟨⟨vs, ex_l g1.sub s⟩, o1 _ F1 H1 (Grow.refl g1.sub) (itIs_list s r)⟩⟩
      · exact ⟨a, rfl, .inr ⟨⟨vs, ex_t g1.sub s⟩, o1 _ F1 H1 (Grow.refl g1.sub) (itIs_tup s r)⟩⟩)
end
end Py

set_option Elab.async false
set_option linter.all false
set_option maxRecDepth 100000
set_option maxHeartbeats 4000000
namespace Py
open PySem L2 PySem.Spec PyProof.Rows Evl

/-! ### rule and reading together -/
structure DE (cl : Cl) (X : Cx) (d : Nat) (W : WX) (e : Expr) (p : P.Ex1) : Prop where
  ex : ∃ te, PE X e te ∧ SE ⟨X.K, cl⟩ d W te p
structure DT (cl : Cl) (X : Cx) (d : Nat) (W : WX) (e : Expr) (p : P.Bx) : Prop where
  ex : ∃ te, PT X e te ∧ ST ⟨X.K, cl⟩ d W te p
structure DW (cl : Cl) (X : Cx) (d : Nat) (W : WX) (e : Expr) (p : P.Bx) : Prop where
  ex : ∃ te, PW X e te ∧ ST ⟨X.K, cl⟩ d W te p
structure DA (cl : Cl) (X : Cx) (d : Nat) (W : WX) (es : List Expr) (p : P.Ax) : Prop where
  ex : ∃ te, PA X es te ∧ SA ⟨X.K, cl⟩ d W te p
structure DS (cl : Cl) (X : Cx) (d : Nat) (W : WX) (st : Stmt) (s : Sx) : Prop where
  ex : ∃ t, PS X st t ∧ SS ⟨X.K, cl⟩ d W t s
structure DB (cl : Cl) (X : Cx) (d : Nat) (W : WX) (st : List Stmt) (s : Sx) : Prop where
  ex : ∃ t, PSs X st t ∧ SS ⟨X.K, cl⟩ d W t s
structure DG (cl : Cl) (X : Cx) (d : Nat) (e : Expr) (tg : T → Fv → Option Fv) : Prop where
  ex : ∃ g, PG X e g ∧ SG ⟨X.K, cl⟩ d g tg
structure DGs (cl : Cl) (X : Cx) (d : Nat) (es : List Expr) (tgs : List (T → Fv → Option Fv)) : Prop where
  ex : ∃ g, PGs X es g ∧ SGs ⟨X.K, cl⟩ d g tgs
structure DI (cl : Cl) (X : Cx) (d : Nat) (W : WX) (tg e : Expr) (p : Fv → Res (List T)) : Prop where
  ex : ∃ wi, PI X tg e wi ∧ SI ⟨X.K, cl⟩ d W wi p
structure DIF (cl : Cl) (X : Cx) (d : Nat) (W : WX) (tg e : Expr) (p : Fv → Res (List T)) : Prop where
  ex : ∃ wi, PI X tg e wi ∧ SIF ⟨X.K, cl⟩ d W wi p
structure DN (cl : Cl) (X : Cx) (d : Nat) (W : WX) (e : Expr) (p : Fv → Res (List T)) : Prop where
  ex : ∃ te, PE X e te ∧ SN ⟨X.K, cl⟩ d W te p
section
variable {cl : Cl} {X : Cx} {d : Nat} {W : WX} {e e1 e2 e3 o : Expr} {es rest : List Expr} {p q r : P.Ex1} {a : P.Ax} {b b' : P.Bx} {pos p1 p2 : Pos} {f g : T → T → Option T} {s s' u : Sx} {st : Stmt} {sts sts' : List Stmt} {i : Nat}
theorem de_v (i : Nat) {x : Str} (hN : X.N[i]? = some x := by rfl) (hv : Vis X.env.scope x := by first | exact Or.inl rfl | exact Or.inr (Or.inl rfl) | exact Or.inr (Or.inr rfl)) (hd : (x == ("__debug__" : Str)) = false := by decide)
    (hcd : (x == ("__classdict__" : Str)) = false := by decide) : DE cl X d W (.Name x pos) (P.var d i) := ⟨_, pe_var hN hv hd hcd, se_var⟩
theorem de_int {n j} : DE cl X d W (.Constant (.int n) j pos) (P.c (.int n)) := ⟨_, pe_int, se_c fun _ _ => rfl⟩
theorem de_bl {n j} : DE cl X d W (.Constant (.bool n) j pos) (P.c (.bl n)) := ⟨_, pe_bl, se_c fun _ _ => rfl⟩
theorem de_str {n j} : DE cl X d W (.Constant (.str n) j pos) (P.c (.str n)) := ⟨_, pe_str, se_c fun _ _ => rfl⟩
theorem de_non {j} : DE cl X d W (.Constant .none j pos) (P.c .non) := ⟨_, pe_non, se_c fun _ _ => rfl⟩
/-- a name of the module that holds a plain thing -/
theorem de_g {x : Str} {v : V} {uu : Value} {t : T} (ht : ∀ G A F, rep G A F t v) (hm : X.mg x = some uu) (r : RelV v uu) (hg : Gl X x := by rfl) (hd : (x == ("__debug__" : Str)) = false := by decide) : DE cl X d W (.Name x pos) (P.c t) := ⟨_, pe_glob hg hm r hd, se_c fun A F => ht _ A F⟩
theorem de_op {op : Operator} (ho : OpD X cl (binaryOp op) f) (h1 : DE cl X d W e1 p) (h2 : DE cl X d W e2 q) : DE cl X d W (.BinOp e1 op e2 pos) (P.bin f p q) := by
  obtain ⟨r, a1, a2⟩ := ho
  obtain ⟨t1, b1, b2⟩ := h1
  obtain ⟨t2, c1, c2⟩ := h2
  exact ⟨_, pe_op a1 b1 c1, se_op a2 b2 c2⟩
theorem de_un {op : UnaryOp} {f : T → Option T} (ho : UnD X cl (unaryOp op) f) (h1 : DE cl X d W e1 p) : DE cl X d W (.UnaryOp op e1 pos) (P.un f p) := by
  obtain ⟨r, a1, a2⟩ := ho
  obtain ⟨t1, b1, b2⟩ := h1
  exact ⟨_, pe_un a1 b1, se_un a2 b2⟩
theorem de_cmp {op : CmpOp} (ho : OpD X cl (compareOp op) f) (h1 : DE cl X d W e1 p) (h2 : DE cl X d W e2 q) (hm : behindInMarks op e2 = false := by first | exact nomark _ | rfl) : DE cl X d W (.Compare e1 [op] [e2] pos) (P.bin f p q) := by
  obtain ⟨r, a1, a2⟩ := ho
  obtain ⟨t1, b1, b2⟩ := h1
  obtain ⟨t2, c1, c2⟩ := h2
  exact ⟨_, pe_cmpR a1 b1 c1 hm, se_op a2 b2 c2⟩
theorem dt_cmp {op : CmpOp} (ho : OpD X cl (compareOp op) f) (h1 : DE cl X d W e1 p) (h2 : DE cl X d W e2 q) (hm : behindInMarks op e2 = false := by first | exact nomark _ | rfl) : DT cl X d W (.Compare e1 [op] [e2] pos) (P.tb (P.bin f p q)) := by
  obtain ⟨r, a1, a2⟩ := ho
  obtain ⟨t1, b1, b2⟩ := h1
  obtain ⟨t2, c1, c2⟩ := h2
  exact ⟨_, pt_cmpR a1 b1 c1 hm, st_test (se_op a2 b2 c2)⟩
theorem dt_val (h1 : DE cl X d W e p) (he : ∀ whole, isTrue e X.env whole = (do let v ← whole; standAt e.pos; holding [v] (truthy v)) := by intro _; rfl) : DT cl X d W e (P.tb p) := by
  obtain ⟨t1, b1, b2⟩ := h1
  exact ⟨_, pt_val b1 he, st_tb b2⟩
theorem dt_tr (h1 : DE cl X d W e p) (he : ∀ whole, isTrue e X.env whole = (do let v ← whole; standAt e.pos; holding [v] (truthy v)) := by intro _; rfl) : DT cl X d W e (P.tr p) := by
  obtain ⟨t1, b1, b2⟩ := h1
  exact ⟨_, pt_truth b1 he, st_tr b2⟩
theorem dt_not (h1 : DT cl X d W e b) : DT cl X d W (.UnaryOp .Not e pos) (P.not b) := by
  obtain ⟨t1, b1, b2⟩ := h1
  exact ⟨_, pt_not b1, st_not b2⟩
theorem dt_w (h1 : DW cl X d W e b) : DT cl X d W e b := by
  obtain ⟨t1, b1, b2⟩ := h1
  exact ⟨_, b1.pt, b2⟩
theorem dw_and1 (h1 : DT cl X d W e b) : DW cl X d W (.BoolOp .And [e] pos) b := by
  obtain ⟨t1, b1, b2⟩ := h1
  exact ⟨_, pw_and1 b1, b2⟩
theorem dw_or1 (h1 : DT cl X d W e b) : DW cl X d W (.BoolOp .Or [e] pos) b := by
  obtain ⟨t1, b1, b2⟩ := h1
  exact ⟨_, pw_or1 b1, b2⟩
theorem dw_and (h1 : DT cl X d W e1 b) (h2 : DW cl X d W (.BoolOp .And (e2 :: rest) pos) b') : DW cl X d W (.BoolOp .And (e1 :: e2 :: rest) pos) (P.and b b') := by
  obtain ⟨t1, b1, b2⟩ := h1
  obtain ⟨t2, c1, c2⟩ := h2
  exact ⟨_, pw_and b1 c1, st_and b2 c2⟩
theorem dw_or (h1 : DT cl X d W e1 b) (h2 : DW cl X d W (.BoolOp .Or (e2 :: rest) pos) b') : DW cl X d W (.BoolOp .Or (e1 :: e2 :: rest) pos) (P.or b b') := by
  obtain ⟨t1, b1, b2⟩ := h1
  obtain ⟨t2, c1, c2⟩ := h2
  exact ⟨_, pw_or b1 c1, st_or b2 c2⟩
theorem de_one {op} (h1 : DE cl X d W e p) : DE cl X d W (.BoolOp op [e] pos) p := by
  obtain ⟨t1, b1, b2⟩ := h1
  exact ⟨_, pe_one b1, b2⟩
theorem de_and (h1 : DE cl X d W e1 p) (h2 : DE cl X d W (.BoolOp .And (e2 :: rest) pos) q) : DE cl X d W (.BoolOp .And (e1 :: e2 :: rest) pos) (P.andV p q) := by
  obtain ⟨t1, b1, b2⟩ := h1
  obtain ⟨t2, c1, c2⟩ := h2
  exact ⟨_, pe_and b1 c1, se_andV b2 c2⟩
theorem de_or (h1 : DE cl X d W e1 p) (h2 : DE cl X d W (.BoolOp .Or (e2 :: rest) pos) q) : DE cl X d W (.BoolOp .Or (e1 :: e2 :: rest) pos) (P.orV p q) := by
  obtain ⟨t1, b1, b2⟩ := h1
  obtain ⟨t2, c1, c2⟩ := h2
  exact ⟨_, pe_or b1 c1, se_orV b2 c2⟩
theorem de_not (h1 : DE cl X d W e p) : DE cl X d W (.UnaryOp .Not e pos) (P.notV p) := by
  obtain ⟨t1, b1, b2⟩ := h1
  exact ⟨_, pe_not b1, se_notV b2⟩
theorem de_ite (ht : DT cl X d W e b) (h1 : DE cl X d W e1 p) (h2 : DE cl X d W e2 q) : DE cl X d W (.IfExp e e1 e2 pos) (P.ite b p q) := by
  obtain ⟨t0, a1, a2⟩ := ht
  obtain ⟨t1, b1, b2⟩ := h1
  obtain ⟨t2, c1, c2⟩ := h2
  exact ⟨_, pe_ifExp a1 b1 c1, se_if a2 b2 c2⟩
theorem de_chain {op op' : CmpOp} (ho : OpD X cl (compareOp op) f) (ho' : OpD X cl (compareOp op') g) (h1 : DE cl X d W e1 p) (h2 : DE cl X d W e2 q) (h3 : DE cl X d W e3 r) (hm : lastMarks [op, op'] [e2, e3] = false := by rfl) : DE cl X d W (.Compare e1 [op, op'] [e2, e3] pos) (P.chain f g p q r) := by
  obtain ⟨r1, x1, x2⟩ := ho
  obtain ⟨r2, y1, y2⟩ := ho'
  obtain ⟨t0, a1, a2⟩ := h1
  obtain ⟨t1, b1, b2⟩ := h2
  obtain ⟨t2, c1, c2⟩ := h3
  exact ⟨_, pe_chain x1 y1 a1 b1 c1 hm, se_chain x2 y2 a2 b2 c2⟩
theorem da_nil : DA cl X d W [] P.nil := ⟨_, pa_nil, sa_nil⟩
theorem da_cons (h1 : DE cl X d W e p) (h2 : DA cl X d W es a) (hs : starEach (e :: es) X.env = (false, eval e X.env) :: starEach es X.env := by rfl) : DA cl X d W (e :: es) (P.cons p a) := by
  obtain ⟨t1, b1, b2⟩ := h1
  obtain ⟨t2, c1, c2⟩ := h2
  exact ⟨_, pa_cons b1 c1 hs, sa_cons b2 c2⟩
theorem de_tup {x1} (h : DA cl X d W es a) : DE cl X d W (.Tuple es x1 pos) (P.tup a) := by
  obtain ⟨t1, b1, b2⟩ := h
  exact ⟨_, pe_tup b1, se_tup b2⟩
theorem de_lst (h : DA cl X d W es a) : DE cl X d W (.List es pos) (P.lst a) := by
  obtain ⟨t1, b1, b2⟩ := h
  exact ⟨_, pe_lst b1, se_lst b2⟩
theorem dn_lst (h : DA cl X d W es a) : DN cl X d W (.List es pos) (lfits a) := by
  obtain ⟨t1, b1, b2⟩ := h
  exact ⟨_, pe_lst b1, sn_lst b2⟩
theorem de_ix (h1 : DE cl X d W e1 p) (h2 : DE cl X d W e2 q) (hs : PlainIx e2 := by exact fun _ _ => rfl) : DE cl X d W (.Subscript e1 e2 pos) (P.bin T.ix p q) := by
  obtain ⟨r, a1, a2⟩ := ixD (X := X) (cl := cl)
  obtain ⟨t1, b1, b2⟩ := h1
  obtain ⟨t2, c1, c2⟩ := h2
  exact ⟨_, pe_ix a1 b1 c1 hs, se_op a2 b2 c2⟩
/-- a def of the module -/
theorem de_call {k n : Nat} {fa : Addr} {fd : FuncData} {ps : List Str} {f : Nat → List T → Res T} {x : Str} (F : FnOk X.prog X.w X.K X.mg X.base (L2.CX X.prog X.w) k fa fd ps (spT ⟨X.K, cl⟩ n f)) (hr : Room k X.A) (hm : X.mg x = some (.ref fa)) (hk : PySem.W.keepIn X.K (.ref fa) = true)
    (hb : Binds X.K fd ps []) (tk : Takes X W) (ha : DA cl X d W (e :: es) a) (hn : ∀ env xs, a env = .ok xs → xs.length = n) (hg : Gl X x := by rfl) (hdb : (x == ("__debug__" : Str)) = false := by decide)
    (he : starEach (e :: es) X.env = (false, eval e X.env) :: starEach es X.env := by rfl) (hpl : (backTo pos (starEach es X.env)).any (·.1) = false := by rfl) : DE cl X d W (.Call (.Name x p1) (e :: es) [] pos) (P.call (f (d + 1)) a) := by
  obtain ⟨t, c1, c2⟩ := ha
  exact ⟨_, pe_callS F hr hg hm hk hb (fun σ => passAt tk σ) c1 hdb he hpl, se_call rfl hn c2⟩
/-- how many arguments -/
theorem n_nil : ∀ env xs, P.nil env = .ok xs → xs.length = 0 := fun env xs h => by cases h; rfl
theorem n_cons {n : Nat} (h : ∀ env xs, a env = .ok xs → xs.length = n) : ∀ env xs, P.cons p a env = .ok xs → xs.length = n + 1 := fun env xs h2 => by
  unfold P.cons at h2
  cases z : p env with
  | ok x =>
    rw [z] at h2
    cases z2 : a env with
    | ok ys =>
      rw [Res.bind_ok, z2] at h2
      cases h2
      rw [List.length_cons, h env ys z2]
    | er e => rw [Res.bind_ok, z2] at h2; cases h2
    | stuck => rw [Res.bind_ok, z2] at h2; cases h2
  | er e => rw [z] at h2; cases h2
  | stuck => rw [z] at h2; cases h2

/-! ### statements -/
theorem db_nil : DB cl X d W [] S.skip := ⟨_, pss_nil, ss_skip⟩
theorem db_one (h : DS cl X d W st s) : DB cl X d W [st] s := by
  obtain ⟨t, a1, a2⟩ := h
  exact ⟨_, pss_one a1, a2⟩
theorem db_cons (h : DS cl X d W st s) (h2 : DB cl X d W sts u) : DB cl X d W (st :: sts) (S.seq s u) := by
  obtain ⟨t, a1, a2⟩ := h
  obtain ⟨t', b1, b2⟩ := h2
  exact ⟨_, pss_cons a1 b1, ss_seq a2 b2⟩
theorem ds_asg {i : Nat} {x : Str} {p' : Pos} (hN : X.N.Nodup) (h : DE cl X d W e p) (hi : X.N[i]? = some x := by rfl) (hx : Loc X.env.scope x := by first | exact Or.inl rfl | exact Or.inr rfl) (hs : swapsWith e (some (.Name x p')) pos.line X.env = pure false := by rfl)
    (hf : X.fn x = true ∨ X.env.scope.names.lookup x = some .local := by first | exact .inl rfl | exact .inr rfl) : DS cl X d W (.Assign [.Name x p'] e pos) (S.asg i p) := by
  obtain ⟨t, a1, a2⟩ := h
  exact ⟨_, ps_set hN hi hx a1 hs hf, ss_asg a2⟩
theorem ds_asgX {i : Nat} {x : Str} {p' : Pos} (hN : X.N.Nodup) (h : DE cl X d W e p) (hi : X.N[i]? = some x := by rfl) (hx : Loc X.env.scope x := by first | exact Or.inl rfl | exact Or.inr rfl) (hs : swapsWith e (some (.Name x p')) pos.line X.env = pure false := by rfl)
    (hf : X.fn x = true ∨ X.env.scope.names.lookup x = some .local := by first | exact .inl rfl | exact .inr rfl) : DS cl X d W (.Assign [.Name x p'] e pos) (S.asgX i p) := by
  obtain ⟨t, a1, a2⟩ := h
  exact ⟨_, ps_set hN hi hx a1 hs hf, ss_asgX a2⟩
theorem ds_new {i : Nat} {x : Str} {p' : Pos} {pn : Fv → Res (List T)} (hN : X.N.Nodup) (h : DN cl X d W e pn) (hi : X.N[i]? = some x := by rfl) (hx : Loc X.env.scope x := by first | exact Or.inl rfl | exact Or.inr rfl) (hs : swapsWith e (some (.Name x p')) pos.line X.env = pure false := by rfl)
    (hf : X.fn x = true ∨ X.env.scope.names.lookup x = some .local := by first | exact .inl rfl | exact .inr rfl) : DS cl X d W (.Assign [.Name x p'] e pos) (S.new i pn) := by
  obtain ⟨t, a1, a2⟩ := h
  exact ⟨_, ps_set hN hi hx a1 hs hf, ss_new a2⟩
theorem ds_frz (i : Nat) (h : DS cl X d W st s) : DS cl X d W st (S.frz i s) := by
  obtain ⟨t, a1, a2⟩ := h
  exact ⟨_, a1, ss_frz a2⟩
theorem ds_app {i : Nat} {x : Str} {apos p' : Pos} (h : DE cl X d W e p) (hN : X.N[i]? = some x := by rfl) (hv : Vis X.env.scope x := by first | exact Or.inl rfl | exact Or.inr (Or.inl rfl) | exact Or.inr (Or.inr rfl)) (hd : (x == ("__debug__" : Str)) = false := by decide) (hcd : (x == ("__classdict__" : Str)) = false := by decide)
    (hbase : attributeBase (.Name x p') "append" X.env (eval (.Name x p') X.env) = eval (.Name x p') X.env := by rfl)
    (hfew : ((backTo p1 (starEach [e] X.env)).all (fun x => !x.1) && (backToKw p1 (keywordEach [] X.env)).all (fun x => x.1.isSome) && decide ([e].length + ([] : List Keyword).length + (if ([] : List Keyword).isEmpty then 0 else 1) < 30)) = true := by rfl)
    (hline : (apos.endLine == p1.line) = true := by rfl) (hs : starEach [e] X.env = (false, eval e X.env) :: starEach [] X.env := by rfl) (hplain : (backTo p1 (starEach [] X.env)).any (·.1) = false := by rfl)
    (hsw : swapsWith (.Call (.Attribute (.Name x p') "append" apos) [e] [] p1) none pos.line X.env = pure false := by rfl) : DS cl X d W (.Expr (.Call (.Attribute (.Name x p') "append" apos) [e] [] p1) pos) (S.app i p) := by
  obtain ⟨t, a1, a2⟩ := h
  exact ⟨_, ps_expr (pe_bm PySem.F.plainAttrs_list PySem.F.slot_list_append PySem.F.type_list_append mt_append (pe_var hN hv hd hcd) (pa_cons a1 pa_nil hs) hbase hfew hline hs hplain) hsw, ss_app a2⟩
theorem ds_appX {i : Nat} {x : Str} {apos p' : Pos} (h : DE cl X d W e p) (hN : X.N[i]? = some x := by rfl) (hv : Vis X.env.scope x := by first | exact Or.inl rfl | exact Or.inr (Or.inl rfl) | exact Or.inr (Or.inr rfl)) (hd : (x == ("__debug__" : Str)) = false := by decide) (hcd : (x == ("__classdict__" : Str)) = false := by decide)
    (hbase : attributeBase (.Name x p') "append" X.env (eval (.Name x p') X.env) = eval (.Name x p') X.env := by rfl)
    (hfew : ((backTo p1 (starEach [e] X.env)).all (fun x => !x.1) && (backToKw p1 (keywordEach [] X.env)).all (fun x => x.1.isSome) && decide ([e].length + ([] : List Keyword).length + (if ([] : List Keyword).isEmpty then 0 else 1) < 30)) = true := by rfl)
    (hline : (apos.endLine == p1.line) = true := by rfl) (hs : starEach [e] X.env = (false, eval e X.env) :: starEach [] X.env := by rfl) (hplain : (backTo p1 (starEach [] X.env)).any (·.1) = false := by rfl)
    (hsw : swapsWith (.Call (.Attribute (.Name x p') "append" apos) [e] [] p1) none pos.line X.env = pure false := by rfl) : DS cl X d W (.Expr (.Call (.Attribute (.Name x p') "append" apos) [e] [] p1) pos) (S.appX i p) := by
  obtain ⟨t, a1, a2⟩ := h
  exact ⟨_, ps_expr (pe_bm PySem.F.plainAttrs_list PySem.F.slot_list_append PySem.F.type_list_append mt_append (pe_var hN hv hd hcd) (pa_cons a1 pa_nil hs) hbase hfew hline hs hplain) hsw, ss_appX a2⟩
theorem ds_setX {i : Nat} {x : Str} {p' : Pos} {x1} (h : DE cl X d W e p) (hk : DE cl X d W e2 q) (hN : X.N[i]? = some x := by rfl) (hv : Vis X.env.scope x := by first | exact Or.inl rfl | exact Or.inr (Or.inl rfl) | exact Or.inr (Or.inr rfl)) (hd : (x == ("__debug__" : Str)) = false := by decide) (hcd : (x == ("__classdict__" : Str)) = false := by decide)
    (hs : swapsWithSole [.Subscript (.Name x p') e2 x1] e pos.line X.env = pure false := by rfl) (hw : swappedStores [.Subscript (.Name x p') e2 x1] e X.env = pure none := by rfl)
    (ha : ∀ v, assign (.Subscript (.Name x p') e2 x1) X.env v = (do
      let ov ← holding [v] (eval (.Name x p') X.env)
      let iv ← holding [v, ov] (eval e2 X.env)
      standAt x1
      holding [v, ov, iv] (setItem ov iv v)
      release [v, ov, iv] []) := by intro _; rfl) : DS cl X d W (.Assign [.Subscript (.Name x p') e2 x1] e pos) (S.setX i q p) := by
  obtain ⟨t, a1, a2⟩ := h
  obtain ⟨t2, b1, b2⟩ := hk
  exact ⟨_, ps_asg a1 (pg_sub (pe_var hN hv hd hcd) b1 set_list ha) hs hw, ss_setX a2 b2⟩
theorem ds_expr (h : DE cl X d W e p) (hs : swapsWith e none pos.line X.env = pure false := by rfl) : DS cl X d W (.Expr e pos) (S.expr p) := by
  obtain ⟨t, a1, a2⟩ := h
  exact ⟨_, ps_expr a1 hs, ss_expr a2⟩
theorem ds_ret (h : DE cl X d W e p) : DS cl X d W (.Return (some e) pos) (S.ret p) := by
  obtain ⟨t, a1, a2⟩ := h
  exact ⟨_, ps_ret a1, ss_ret a2⟩
theorem ds_retX (h : DE cl X d W e p) : DS cl X d W (.Return (some e) pos) (S.retX p) := by
  obtain ⟨t, a1, a2⟩ := h
  exact ⟨_, ps_ret a1, ss_retX a2⟩
theorem ds_retN : DS cl X d W (.Return none pos) S.retN := ⟨_, ps_retN, ss_retN⟩
theorem ds_brk : DS cl X d W (.Break pos) S.brk := ⟨_, ps_break, ss_brk⟩
theorem ds_cnt : DS cl X d W (.Continue pos) S.cnt := ⟨_, ps_continue, ss_cnt⟩
theorem ds_pass : DS cl X d W (.Pass pos) S.skip := ⟨_, ps_pass, ss_skip⟩
theorem ds_if (ht : DT cl X d W e b) (h1 : DB cl X d W sts s) (h2 : DB cl X d W sts' s') : DS cl X d W (.If e sts sts' pos) (S.ite b s s') := by
  obtain ⟨t, a1, a2⟩ := ht
  obtain ⟨t1, b1, b2⟩ := h1
  obtain ⟨t2, c1, c2⟩ := h2
  exact ⟨_, ps_if a1 b1 c1, ss_if a2 b2 c2⟩
theorem ds_while (n : Nat) (po : PassesOwn (model X.prog X.w) X.A X.env X.xe) (ht : DT cl X d W e b) (h1 : DB cl X d W sts s) : DS cl X d W (.While e sts [] pos) (S.while_ b s n) := by
  obtain ⟨t, a1, a2⟩ := ht
  obtain ⟨t1, b1, b2⟩ := h1
  exact ⟨_, ps_while po a1 b1, ss_while a2 b2⟩
theorem dg_name {i : Nat} {x : Str} (hN : X.N.Nodup) (hi : X.N[i]? = some x := by rfl) (hx : Loc X.env.scope x := by first | exact Or.inl rfl | exact Or.inr rfl) (hf : X.fn x = true ∨ X.env.scope.names.lookup x = some .local := by first | exact .inl rfl | exact .inr rfl) : DG cl X d (.Name x pos) (S.tName i) := ⟨_, pg_name hN hi hx hf, sg_name⟩
theorem dgs_nil : DGs cl X d [] [] := ⟨_, pgs_nil, sgs_nil⟩
theorem ds_for {tg it : Expr} {pi : Fv → Res (List T)} {tgs : T → Fv → Option Fv} (po : PassesOwn (model X.prog X.w) X.A X.env X.xe) (hi : DI cl X d W tg it pi) (hg : DG cl X d tg tgs) (hb : DB cl X d W sts s) (hc : X.calm = true := by rfl)
    (hs : ∀ x, foldedSetIterable it X.env x = pure x := by intro _; rfl) : DS cl X d W (.For tg it sts [] pos) (S.for_ tgs pi s) := by
  obtain ⟨t, a1, a2⟩ := hi
  obtain ⟨t1, b1, b2⟩ := hg
  obtain ⟨t2, c1, c2⟩ := hb
  exact ⟨_, ps_for po hc a1 b1 c1 hs, ss_for a2 b2 c2⟩
theorem ds_forX {tg it : Expr} {pi : Fv → Res (List T)} {tgs : T → Fv → Option Fv} (po : PassesOwn (model X.prog X.w) X.A X.env X.xe) (hi : DIF cl X d W tg it pi) (hg : DG cl X d tg tgs) (hb : DB cl X d W sts s) (hc : X.calm = true := by rfl)
    (hs : ∀ x, foldedSetIterable it X.env x = pure x := by intro _; rfl) : DS cl X d W (.For tg it sts [] pos) (S.forX tgs pi s) := by
  obtain ⟨t, a1, a2⟩ := hi
  obtain ⟨t1, b1, b2⟩ := hg
  obtain ⟨t2, c1, c2⟩ := hb
  exact ⟨_, ps_for po hc a1 b1 c1 hs, ss_forX a2 b2 c2⟩
theorem dif_rng1 {tg : Expr} (ha : DA cl X d W [e] a) (hm : X.mg "range" = none) (hg : Gl X "range" := by rfl) (hs : starEach [e] X.env = [(false, eval e X.env)] := by rfl) : DIF cl X d W tg (.Call (.Name "range" p1) [e] [] pos) (P.rng1 a) := by
  obtain ⟨t, a1, a2⟩ := ha
  exact ⟨_, pi_range1 hg hm a1 hs, sif_rng1 a2⟩
theorem dif_rng2 {tg : Expr} (ha : DA cl X d W [e, e2] a) (hm : X.mg "range" = none) (hg : Gl X "range" := by rfl) (hs : starEach [e, e2] X.env = [(false, eval e X.env), (false, eval e2 X.env)] := by rfl) (hs2 : starEach [e2] X.env = [(false, eval e2 X.env)] := by rfl) : DIF cl X d W tg (.Call (.Name "range" p1) [e, e2] [] pos) (P.rng2 a) := by
  obtain ⟨t, a1, a2⟩ := ha
  exact ⟨_, pi_range2 hg hm a1 hs hs2, sif_rng2 a2⟩
theorem DIF.di {tg it : Expr} {pi : Fv → Res (List T)} (h : DIF cl X d W tg it pi) : DI cl X d W tg it pi := by
  obtain ⟨t, a1, a2⟩ := h
  exact ⟨_, a1, a2.si⟩
theorem di_seq {tg : Expr} (h : DE cl X d W e p) : DI cl X d W tg e (P.items p) := by
  obtain ⟨t, a1, a2⟩ := h
  exact ⟨_, pi_seq a1, si_seq a2⟩
end
/-! ### a def -/
def fin : RS → Res T
  | .nx _ => .ok .non
  | .rt t => .ok t
  | .er e _ => .er e
  | _ => .stuck
/-- the frame at the entry -/
def ent (n : Nat) (ts : List T) : Fv := ts.map (fun t => some (.fz t)) ++ List.replicate (n - ts.length) none
def run (n : Nat) (s : Sx) (ts : List T) : Res T := fin (s (ent n ts))
section
variable {cl : Cl} {G : Ge}
theorem rel_start {d : Nat} {A0 : Al} {F0 H0 : Hp} {N : List Str} {ts : List T} {vs : List V} (ok : AOk A0 F0) (dep : ∀ g a, A0 g = some a → g.1 < d) (e : Ex F0 H0) (r : reps G A0 F0 ts vs) (hl : ts.length ≤ N.length) : Rel G d A0 F0 H0 A0 (ent N.length ts) (L2.start N vs) F0 H0 where
  ok0 := ok
  dep0 := dep
  len := by
    unfold ent L2.start
    rw [List.length_append, List.length_append, List.length_map, List.length_map, List.length_replicate, List.length_replicate, r.length]
  agree := fun _ _ => rfl
  dep := fun g a z => Nat.le_of_lt (dep g a z)
  inj := ok.inj
  own := fun i a z => absurd (dep _ _ z) (Nat.lt_irrefl _)
  exF := Ex.refl _
  sub := e
  keep := Ex.refl _
  sep := fun _ h _ => h
  fz := fun i t h => by
    unfold ent at h
    by_cases hi : i < ts.length
    · rw [List.getElem?_append_left (by simpa using hi), List.getElem?_map] at h
      cases q : ts[i]? with
      | none => rw [q] at h; cases h
      | some u =>
        rw [q] at h
        cases h
        obtain ⟨v, hv, rv⟩ := r.get q
        refine ⟨v, ?_, rv⟩
        unfold L2.start
        rw [List.getElem?_append_left (by rw [List.length_map, r.length]; exact hi), List.getElem?_map, hv] <;> rfl
    · rw [List.getElem?_append_right (by simpa using hi), List.getElem?_replicate] at h
      split at h <;> cases h
  ol := fun i t h => by
    unfold ent at h
    by_cases hi : i < ts.length
    · rw [List.getElem?_append_left (by simpa using hi), List.getElem?_map] at h
      cases q : ts[i]? with
      | none => rw [q] at h; cases h
      | some u => rw [q] at h; cases h
    · rw [List.getElem?_append_right (by simpa using hi), List.getElem?_replicate] at h
      split at h <;> cases h
  oi := fun i c ns t h => by
    unfold ent at h
    by_cases hi : i < ts.length
    · rw [List.getElem?_append_left (by simpa using hi), List.getElem?_map] at h
      cases q : ts[i]? with
      | none => rw [q] at h; cases h
      | some u => rw [q] at h; cases h
    · rw [List.getElem?_append_right (by simpa using hi), List.getElem?_replicate] at h
      split at h <;> cases h
/-- the body's reading at the entry -/
theorem body_ok {d : Nat} {A0 : Al} {F0 H : Hp} {N : List Str} {ts : List T} {vs : List V} {Q : VK} {E : XK} {t : TS} {s : Sx} (h : SS G d (fun cls dx _ H => E cls dx H) t s) (ok : AOk A0 F0) (dep : ∀ g a, A0 g = some a → g.1 < d) (e : Ex F0 H) (r : reps G A0 F0 ts vs) (hl : ts.length ≤ N.length)
    (o : Out G A0 F0 H Q E (run N.length s ts)) : t { nx := fun _ H' => Q .non H', rt := Q } (L2.start N vs) H := by
  refine h A0 F0 H A0 (ent N.length ts) (L2.start N vs) F0 H _ (rel_start ok dep e r hl) ?_
  unfold run at o
  cases z : s (ent N.length ts) with
  | nx env => rw [z] at o; exact fun A σ F H R => o .non F H R.growF rfl
  | rt t => rw [z] at o; exact fun v F H g r => o v F H g r
  | er e env => rw [z] at o; exact fun A σ F H dx R x => o dx F H R.growF x
  | br env => rw [z] at o; exact o.elim
  | ct env => rw [z] at o; exact o.elim
  | stuck => rw [z] at o; exact o.elim
abbrev FnP (K : PySem.W.Frag) (x : Str) (st : Stmt) (f : Addr) (fd : FuncData) : Prop := FunD K x x (defArgs st) (defBody st) (defScope st) [] [] f fd
/-- the context of a def's body -/
abbrev XOf (P : Program) (w : World) (K : PySem.W.Frag) (mg : Str → Option Value) (base : Heap) (N : List Str) (qual : Str) (sc : Scope) (f : Addr) (cd : Value) (A : Around) (outer : List Env) (s : Shared) (H : Hp) (E : XK) : Cx := cxOf (L2.CX P w) P w K mg base N qual sc f cd A outer s H E
abbrev WOf (E : XK) : WX := fun cls dx _ H => E cls dx H
theorem tk_of {P : Program} {w : World} {K : PySem.W.Frag} {mg : Str → Option Value} {base : Heap} {N : List Str} {qual : Str} {sc : Scope} {f : Addr} {cd : Value} {A : Around} {outer : List Env} {s : Shared} {H : Hp} {E : XK} :
    Takes (XOf P w K mg base N qual sc f cd A outer s H E) (WOf E) := takes_of rfl rfl rfl rfl
theorem po_of {P : Program} {w : World} {K : PySem.W.Frag} {mg : Str → Option Value} {base : Heap} {N : List Str} {qual : Str} {sc : Scope} {f : Addr} {cd : Value} {A : Around} {outer : List Env} {s : Shared} {H : Hp} {E : XK} :
    PassesOwn (model P w) (XOf P w K mg base N qual sc f cd A outer s H E).A (XOf P w K mg base N qual sc f cd A outer s H E).env (XOf P w K mg base N qual sc f cd A outer s H E).xe := passes_of (X := XOf P w K mg base N qual sc f cd A outer s H E) rfl
theorem def_ok {P : Program} {w : World} {K : PySem.W.Frag} {mg : Str → Option Value} {base : Heap} {x qual : Str} {params : Arguments} {body : List Stmt} {scope : Scope} {f : Addr} {fd : FuncData} {N ps : List Str} {k n : Nat} {fT : Nat → List T → Res T} {sT : Nat → Sx}
    (F : FunD K x qual params body scope [] [] f fd) (S : FnScope N ps scope) (hn : n = ps.length) (hle : ps.length ≤ N.length) (hf : ∀ d ts, fT d ts = run N.length (sT d) ts)
    (h : ∀ (d : Nat) (cdv : Value) (A : Around) (outer : List Env) (s : Shared) (H : Hp) (E : XK), Room k (A.deeper (envOfC qual scope s.heap.objs.size f cdv)) → DB cl (XOf P w K mg base N qual scope f cdv A outer s H E) d (WOf E) body (sT d)) :
    FnOk P w K mg base (L2.CX P w) (k + 1) f fd ps (spT ⟨K, cl⟩ n fT) := by
  subst hn
  refine F.ok S (fun vs H Q E h => h.1) (fun cdv A outer s H vs Q E hr hsp => ?_)
  obtain ⟨hl, d, A0, F0, ts, ok, dep, e, r, o⟩ := hsp
  obtain ⟨t, a1, a2⟩ := h d cdv A outer s H E hr
  refine ⟨t, a1, body_ok (N := N) a2 ok dep e r (by rw [← r.length, hl]; exact hle) ?_⟩
  rw [← hf]
  exact o
/-- a def as its callers use it -/
structure Dok (cl : Cl) (P : Program) (w : World) (K : PySem.W.Frag) (mg : Str → Option Value) (base : Heap) (x : Str) (k n : Nat) (f : Nat → List T → Res T) : Prop where
  ex : ∃ fa fd ps, FnOk P w K mg base (L2.CX P w) k fa fd ps (spT ⟨K, cl⟩ n f) ∧ Binds K fd ps [] ∧ PySem.W.keepIn K (.ref fa) = true ∧ mg x = some (.ref fa)
theorem dok_of {P : Program} {w : World} {K : PySem.W.Frag} {mg : Str → Option Value} {base : Heap} {x : Str} {st : Stmt} {f : Addr} {fd : FuncData} {N ps : List Str} {k n : Nat} {fT : Nat → List T → Res T} {sT : Nat → Sx}
    (F : FnP K x st f fd) (S : FnScope N ps (defScope st)) (hn : n = ps.length) (hle : ps.length ≤ N.length) (hm : mg x = some (.ref f)) (hf : ∀ d ts, fT d ts = run N.length (sT d) ts)
    (hb : ∀ (kV doc pm : Value) (an : Option Addr) (cdv ct : Value) (us : List Value), us.length = ps.length → bindArgs (PySem.W.fnOf x x (defArgs st) (defBody st) (defScope st) .none kV doc pm an cdv ct) ⟨us, []⟩ = pure (ps.zip us))
    (h : ∀ (d : Nat) (cdv : Value) (A : Around) (outer : List Env) (s : Shared) (H : Hp) (E : XK), Room k (A.deeper (envOfC x (defScope st) s.heap.objs.size f cdv)) → DB cl (XOf P w K mg base N x (defScope st) f cdv A outer s H E) d (WOf E) (defBody st) (sT d)) :
    Dok cl P w K mg base x (k + 1) n fT := ⟨f, fd, ps, def_ok F S hn hle hf h, F.bindsN hb, F.kp, hm⟩
end
section
variable {cl : Cl} {X : Cx} {d k n : Nat} {W : WX} {e : Expr} {es : List Expr} {a : P.Ax} {x : Str} {f : Nat → List T → Res T} {p1 pos : Pos}
theorem de_d (D : Dok cl X.prog X.w X.K X.mg X.base x k n f) (hr : Room k X.A) (ha : DA cl X d W (e :: es) a) (hn : ∀ env xs, a env = .ok xs → xs.length = n) (tk : Takes X W := by first | exact tk_of | exact takes0) (hg : Gl X x := by rfl) (hdb : (x == ("__debug__" : Str)) = false := by decide)
    (he : starEach (e :: es) X.env = (false, eval e X.env) :: starEach es X.env := by rfl) (hpl : (backTo pos (starEach es X.env)).any (·.1) = false := by rfl) : DE cl X d W (.Call (.Name x p1) (e :: es) [] pos) (P.call (f (d + 1)) a) := by
  obtain ⟨fa, fd, ps, F, hb, hk, hm⟩ := D
  exact de_call F hr hm hk hb tk ha hn hg hdb he hpl
/-- a lot of turns -/
def fuel : Nat := 1000000000000
end
end Py

set_option Elab.async false
set_option linter.all false
set_option maxRecDepth 100000
set_option maxHeartbeats 4000000
namespace Py
open PySem L2 PySem.Spec PyProof.Rows Evl

/-! ### built-in calls, by values -/
def CRd (cl : Cl) (X : Cx) (v : Value) (f : List T → Option T) : Prop := ∃ r, CallR X v r ∧ ∀ A F H Q E ts vs, AOk A F → Ex F H → reps ⟨X.K, cl⟩ A F ts vs → Out ⟨X.K, cl⟩ A F H Q E (.of (f ts)) → r vs H Q
namespace B
def int : List T → Option T
  | [.int i] => some (.int i)
  | [.bl b] => some (.int (if b then 1 else 0))
  | _ => none
def len : List T → Option T
  | [.lst _ ts] => some (.int ts.length)
  | [.ro ts] => some (.int ts.length)
  | [.tup ts] => some (.int ts.length)
  | [.str s] => if lfit s.length = true then some (.int s.length) else none
  | _ => none
def abs : List T → Option T
  | [.int i] => some (.int (if i < 0 then -i else i))
  | _ => none
def min2 : List T → Option T
  | [.int i, .int j] => some (.int (if j < i then j else i))
  | _ => none
def max2 : List T → Option T
  | [.int i, .int j] => some (.int (if j > i then j else i))
  | _ => none
def list : List T → Option T
  | [t] => (match t.items with | some ts => some (.lst none ts) | none => none)
  | _ => none
def tuple : List T → Option T
  | [t] => (match t.items with | some ts => some (.tup ts) | none => none)
  | _ => none
def nums : List T → Option (List Int)
  | [] => some []
  | .int i :: ts => (match nums ts with | some l => some (i :: l) | none => none)
  | _ => none
def sum : List T → Option T
  | [.lst _ ts] => (match nums ts with | some l => some (.int l.sum) | none => none)
  | [.ro ts] => (match nums ts with | some l => some (.int l.sum) | none => none)
  | _ => none
def str : List T → Option T
  | [.int i] => if decide (i.natAbs.log2 < 1920) = true then some (.str (toString i)) else none
  | _ => none
end B
section
variable {cl : Cl} {X : Cx} {G : Ge} {A : Al} {F H : Hp} {Q : VK} {E : XK}
theorem reps1 {t : T} {vs : List V} (h : reps G A F [t] vs) : ∃ v, vs = [v] ∧ rep G A F t v := by
  obtain ⟨v, ws, rfl, r, e⟩ := h
  have e' : ws = [] := e
  subst e'
  exact ⟨v, rfl, r⟩
theorem reps2 {t u : T} {vs : List V} (h : reps G A F [t, u] vs) : ∃ v w, vs = [v, w] ∧ rep G A F t v ∧ rep G A F u w := by
  obtain ⟨v, ws, rfl, r, e⟩ := h
  obtain ⟨w, rfl, r2⟩ := reps1 e
  exact ⟨v, w, rfl, r, r2⟩
theorem ints_of : ∀ {ts : List T} {l : List Int} {vs : List V}, B.nums ts = some l → reps G A F ts vs → vs = l.map V.int
  | [], l, vs, h, r => by
    have e : vs = [] := r
    cases h
    exact e
  | t :: ts, l, vs, h, ⟨v, ws, e1, r1, r2⟩ => by
    cases t <;> (try cases h)
    rename_i i
    have h' : (match B.nums ts with | some l => some (i :: l) | none => none) = some l := h
    cases q : B.nums ts with
    | none => rw [q] at h'; cases h'
    | some l2 =>
      rw [q] at h'
      cases h'
      cases r1
      rw [e1, ints_of q r2] <;> rfl
theorem crd_int : CRd cl X (.type "int") B.int := ⟨_, call_int1, fun A F H Q E ts vs ok e r o => by
  unfold B.int at o
  split at o
  · obtain ⟨v, rfl, r1⟩ := reps1 r
    cases r1
    exact .inl ⟨_, rfl, Out.here o e rfl⟩
  · obtain ⟨v, rfl, r1⟩ := reps1 r
    cases r1
    exact .inr ⟨_, rfl, Out.here o e rfl⟩
  · exact o.elim⟩
theorem crd_len : CRd cl X (.builtin "len") B.len := ⟨_, CallR.or call_len_seq call_len_str, fun A F H Q E ts vs ok e r o => by
  unfold B.len at o
  split at o
  · obtain ⟨v, rfl, a, ws, rfl, h1, h2, h3⟩ := reps1 r
    refine .inl ⟨a, ws, rfl, .inl (SqL.of (e _ _ h1)), ?_⟩
    rw [h3.length]
    exact Out.here o e rfl
  · obtain ⟨v, rfl, a, ws, rfl, h1, h3⟩ := reps1 r
    refine .inl ⟨a, ws, rfl, .inl (ex_l e h1), ?_⟩
    rw [h3.length]
    exact Out.here o e rfl
  · obtain ⟨v, rfl, a, ws, rfl, h1, h3⟩ := reps1 r
    refine .inl ⟨a, ws, rfl, .inr (ex_t e h1), ?_⟩
    rw [h3.length]
    exact Out.here o e rfl
  · obtain ⟨v, rfl, r1⟩ := reps1 r
    cases r1
    rename_i s
    by_cases c : lfit s.length = true
    · rw [if_pos c] at o
      exact .inr ⟨s, rfl, of_decide_eq_true c, Out.here o e rfl⟩
    · rw [if_neg c] at o
      exact o.elim
  · exact o.elim⟩
theorem crd_abs : CRd cl X (.builtin "abs") B.abs := ⟨_, call_abs, fun A F H Q E ts vs ok e r o => by
  unfold B.abs at o
  split at o
  · obtain ⟨v, rfl, r1⟩ := reps1 r
    cases r1
    exact ⟨_, rfl, Out.here o e rfl⟩
  · exact o.elim⟩
theorem crd_min2 (hc : X.calm = true) : CRd cl X (.builtin "min") B.min2 := ⟨_, call_min2 hc, fun A F H Q E ts vs ok e r o => by
  unfold B.min2 at o
  split at o
  · obtain ⟨v, w, rfl, r1, r2⟩ := reps2 r
    cases r1; cases r2
    exact ⟨_, _, rfl, Out.here o e rfl⟩
  · exact o.elim⟩
theorem crd_max2 (hc : X.calm = true) : CRd cl X (.builtin "max") B.max2 := ⟨_, call_max2 hc, fun A F H Q E ts vs ok e r o => by
  unfold B.max2 at o
  split at o
  · obtain ⟨v, w, rfl, r1, r2⟩ := reps2 r
    cases r1; cases r2
    exact ⟨_, _, rfl, Out.here o e rfl⟩
  · exact o.elim⟩
theorem crd_list : CRd cl X (.type "list") B.list := ⟨_, call_list_of, fun A F H Q E ts vs ok e r o => by
  unfold B.list at o
  split at o
  · rename_i t
    obtain ⟨v, rfl, r1⟩ := reps1 r
    cases z : t.items with
    | none => simp only [z] at o; exact o.elim
    | some us =>
      simp only [z] at o
      obtain ⟨a, ws, rfl, s, r2⟩ := items_of r1 z
      exact ⟨a, ws, rfl, sq_mono e s, Out.lst o ok e r2⟩
  · exact o.elim⟩
theorem crd_tuple : CRd cl X (.type "tuple") B.tuple := ⟨_, call_tuple_of, fun A F H Q E ts vs ok e r o => by
  unfold B.tuple at o
  split at o
  · rename_i t
    obtain ⟨v, rfl, r1⟩ := reps1 r
    cases z : t.items with
    | none => simp only [z] at o; exact o.elim
    | some us =>
      simp only [z] at o
      obtain ⟨a, ws, rfl, s, r2⟩ := items_of r1 z
      refine ⟨a, ws, rfl, ?_⟩
      rcases s with s | s
      · exact .inl ⟨ex_l e s, Out.tup o e r2⟩
      · exact .inr ⟨ex_t e s, Out.here o e ⟨a, ws, rfl, s, r2⟩⟩
  · exact o.elim⟩
theorem crd_sum (hc : X.calm = true) : CRd cl X (.builtin "sum") B.sum := ⟨_, cr_sum hc, fun A F H Q E ts vs ok e r o => by
  unfold B.sum at o
  split at o
  · rename_i g us
    obtain ⟨v, rfl, a, ws, rfl, h1, h2, h3⟩ := reps1 r
    cases z : B.nums us with
    | none => simp only [z] at o; exact o.elim
    | some l =>
      simp only [z] at o
      have ew := ints_of z h3
      subst ew
      exact ⟨a, l, rfl, SqL.of (e _ _ h1), Out.here o e rfl⟩
  · rename_i us
    obtain ⟨v, rfl, a, ws, rfl, h1, h3⟩ := reps1 r
    cases z : B.nums us with
    | none => simp only [z] at o; exact o.elim
    | some l =>
      simp only [z] at o
      have ew := ints_of z h3
      subst ew
      exact ⟨a, l, rfl, ex_l e h1, Out.here o e rfl⟩
  · exact o.elim⟩
theorem crd_str : CRd cl X (.type "str") B.str := ⟨_, call_str_int, fun A F H Q E ts vs ok e r o => by
  unfold B.str at o
  split at o
  · rename_i i
    obtain ⟨v, rfl, r1⟩ := reps1 r
    cases r1
    by_cases c : decide (i.natAbs.log2 < 1920) = true
    · rw [if_pos c] at o
      exact ⟨i, rfl, of_decide_eq_true c, Out.here o e rfl⟩
    · rw [if_neg c] at o
      exact o.elim
  · exact o.elim⟩
variable {d : Nat} {W : WX} {e : Expr} {es : List Expr} {a : P.Ax} {f : List T → Option T} {x : Str} {p1 pos : Pos}
theorem se_cb {r : List V → Hp → VK → Prop} {tl : TA} (hr : ∀ A F H Q E ts vs, AOk A F → Ex F H → reps G A F ts vs → Out G A F H Q E (.of (f ts)) → r vs H Q) (hl : SA G d W tl a) : SE G d W (tCB r tl) (P.call (fun ts => .of (f ts)) a) := fun A env σ F H Q R e o =>
  hl A env σ F H _ R e (Outg.bind o fun xs vs F1 H1 g1 rs o1 => hr A F1 H1 Q _ xs vs (R.ok.mono g1.ex) g1.sub rs o1)
theorem de_b {id : String} (hr : CRd cl X (.builtin id) f) (hm : X.mg x = none) (hv : bootBuiltins x = some (.builtin id)) (ha : DA cl X d W (e :: es) a) (hg : Gl X x := by rfl) (hn : x ≠ "__name__" := by decide) (hdb : (x == ("__debug__" : Str)) = false := by decide)
    (he : starEach (e :: es) X.env = (false, eval e X.env) :: starEach es X.env := by rfl) (hpl : (backTo pos (starEach es X.env)).any (·.1) = false := by rfl) : DE cl X d W (.Call (.Name x p1) (e :: es) [] pos) (P.call (fun ts => .of (f ts)) a) := by
  obtain ⟨r, a1, a2⟩ := hr
  obtain ⟨t, c1, c2⟩ := ha
  exact ⟨_, pe_callB a1 hg hm hv c1 hn hdb he hpl, se_cb a2 c2⟩
theorem de_ty {id : String} (hr : CRd cl X (.type id) f) (hm : X.mg x = none) (hv : bootBuiltins x = some (.type id)) (ha : DA cl X d W (e :: es) a) (hg : Gl X x := by rfl) (hn : x ≠ "__name__" := by decide) (hdb : (x == ("__debug__" : Str)) = false := by decide)
    (he : starEach (e :: es) X.env = (false, eval e X.env) :: starEach es X.env := by rfl) (hpl : (backTo pos (starEach es X.env)).any (·.1) = false := by rfl) : DE cl X d W (.Call (.Name x p1) (e :: es) [] pos) (P.call (fun ts => .of (f ts)) a) := by
  obtain ⟨r, a1, a2⟩ := hr
  obtain ⟨t, c1, c2⟩ := ha
  exact ⟨_, pe_callTy a1 hg hm hv c1 hn hdb he hpl, se_cb a2 c2⟩
end

/-! ### slices -/
def P.opart (p : Option P.Ex1) : Fv → Res (Option Int) := match p with
  | none => fun _ => .ok none
  | some p => fun env => (p env).bind fun
    | .int i => .ok (some i)
    | _ => .stuck
def T.cut (t : T) (lo hi : Option Int) : Option T := match t with
  | .lst _ ts => some (.lst none ((ts.drop (HT.sIx ts.length 0 lo)).take (HT.sIx ts.length ts.length hi - HT.sIx ts.length 0 lo)))
  | .ro ts => some (.lst none ((ts.drop (HT.sIx ts.length 0 lo)).take (HT.sIx ts.length ts.length hi - HT.sIx ts.length 0 lo)))
  | _ => none
def P.cut (p : P.Ex1) (lo hi : Option P.Ex1) : P.Ex1 := fun env => (p env).bind fun t => (P.opart lo env).bind fun l => (P.opart hi env).bind fun u => .of (t.cut l u)
section
variable {cl : Cl} {X : Cx} {G : Ge} {d : Nat} {W : WX} {e e2 : Expr} {p q : P.Ex1} {te : TE} {pos p2 : Pos} {lo hi : Option Expr} {pl ph : Option P.Ex1}
def SO (G : Ge) (d : Nat) (W : WX) (to : TO) (p : Option P.Ex1) : Prop :=
  ∀ A env σ F H Q, RE G d A env σ F → Ex F H → Outg G A F H (fun _ (a b : Option Int) => b = a) Q (WE W σ) (P.opart p env) → to σ H Q
structure DO (cl : Cl) (X : Cx) (d : Nat) (W : WX) (e : Option Expr) (p : Option P.Ex1) : Prop where
  ex : ∃ to, PO X e to ∧ SO ⟨X.K, cl⟩ d W to p
theorem do_none : DO cl X d W none none := ⟨_, po_none, fun A env σ F H Q R e o => o none F H (Grow.refl e) rfl⟩
theorem do_some (h : DE cl X d W e p) : DO cl X d W (some e) (some p) := by
  obtain ⟨t, a1, a2⟩ := h
  refine ⟨_, po_some a1, fun A env σ F H Q R e o => a2 A env σ F H _ R e (Outg.bind o fun x v F1 H1 g1 rx o1 => ?_)⟩
  cases x <;> (try exact o1.elim)
  cases rx
  exact ⟨_, rfl, o1 _ F1 H1 (Grow.refl g1.sub) rfl⟩
theorem de_cut (h : DE cl X d W e p) (hl : DO cl X d W lo pl) (hh : DO cl X d W hi ph) : DE cl X d W (.Subscript e (.Slice lo hi none p2) pos) (P.cut p pl ph) := by
  obtain ⟨t, a1, a2⟩ := h
  obtain ⟨t1, b1, b2⟩ := hl
  obtain ⟨t2, c1, c2⟩ := hh
  refine ⟨_, pe_slice sl_list a1 b1 c1, fun A env σ F H Q R e o => a2 A env σ F H _ R e (Outg.bind o fun x v F1 H1 g1 rx o1 =>
    b2 A env σ F1 H1 _ (R.mono g1.ex) g1.sub (Outg.bind o1 fun l l' F2 H2 g2 el o2 => ?_))⟩
  subst el
  refine c2 A env σ F2 H2 _ ((R.mono g1.ex).mono g2.ex) g2.sub (Outg.bind o2 fun u u' F3 H3 g3 eu o3 => ?_)
  subst eu
  have R3 := ((R.mono g1.ex).mono g2.ex).mono g3.ex
  have rx3 := (rx.mono g2.ex).mono g3.ex
  cases x <;> (try exact o3.elim)
  · obtain ⟨aa, vs, rfl, h1, h2, h3⟩ := rx3
    refine ⟨aa, vs, rfl, SqL.of (g3.sub _ _ h1), ?_⟩
    refine Out.lst o3 R3.ok g3.sub ?_
    unfold cutV
    rw [h3.length]
    exact (h3.drop _).take _
  · obtain ⟨aa, vs, rfl, h1, h3⟩ := rx3
    refine ⟨aa, vs, rfl, ex_l g3.sub h1, ?_⟩
    refine Out.lst o3 R3.ok g3.sub ?_
    unfold cutV
    rw [h3.length]
    exact (h3.drop _).take _
end
/-! ### comprehensions of one for -/
def wipeE (env : Fv) : List Nat → Fv
  | [] => env
  | v :: vs => (wipeE env vs).set v none
namespace P
/-- one turn an item; nothing may be raised within -/
def turnsC (tg : T → Fv → Option Fv) (t : Bx) (p : Ex1) (env : Fv) : List T → Res (List T)
  | [] => .ok []
  | x :: xs => match tg x env with
    | some env1 => (match t env1 with
      | .ok b => if b = true then (match p env1 with
          | .ok y => (turnsC tg t p env xs).bind fun ys => .ok (y :: ys)
          | _ => .stuck) else turnsC tg t p env xs
      | _ => .stuck)
    | none => .stuck
def yes : Bx := fun _ => .ok true
def comp (own : List Nat) (tg : T → Fv → Option Fv) (pi : Fv → Res (List T)) (t : Bx) (p : Ex1) : Fv → Res (List T) := fun env => (pi env).bind fun xs => if lfit xs.length = true then turnsC tg t p (wipeE env own) xs else .stuck
def lc (own : List Nat) (tg : T → Fv → Option Fv) (pi : Fv → Res (List T)) (t : Bx) (p : Ex1) : Ex1 := fun env => (comp own tg pi t p env).bind fun ys => .ok (.lst none ys)
end P
section
variable {G : Ge} {d : Nat} {W : WX} {A : Al} {F H F1 H1 : Hp} {env : Fv} {σ : L2.St} {te : TE} {p : P.Ex1} {tt : TT} {b : P.Bx}
abbrev W0 : WX := fun _ _ _ _ => False
theorem wipe_get (σ : L2.St) : ∀ (vs : List Nat) (j : Nat), (wipe σ vs)[j]? = if j ∈ vs ∧ j < σ.length then some none else σ[j]?
  | [], j => by rw [if_neg (by simp)] <;> rfl
  | v :: vs, j => by
    show ((wipe σ vs).set v none)[j]? = _
    by_cases h : v = j
    · subst h
      by_cases hl : v < σ.length
      · rw [List.getElem?_set_self (by rw [wipe_length]; exact hl), if_pos ⟨List.mem_cons_self, hl⟩]
      · rw [List.getElem?_eq_none (by rw [List.length_set, wipe_length]; omega), if_neg (fun z => hl z.2), List.getElem?_eq_none (by omega)]
    · rw [List.getElem?_set_ne h, wipe_get σ vs j]
      have e : (j ∈ v :: vs ∧ j < σ.length) ↔ (j ∈ vs ∧ j < σ.length) := by
        rw [List.mem_cons]
        exact ⟨fun ⟨z, y⟩ => ⟨z.resolve_left (fun q => h q.symm), y⟩, fun ⟨z, y⟩ => ⟨.inr z, y⟩⟩
      by_cases c : j ∈ vs ∧ j < σ.length
      · rw [if_pos c, if_pos (e.mpr c)]
      · rw [if_neg c, if_neg (fun z => c (e.mp z))]
theorem wipe_eq {σ2 : L2.St} {vs : List Nat} (hl : σ2.length = σ.length) (h : ∀ j, j ∉ vs → σ2[j]? = (wipe σ vs)[j]?) : wipe σ2 vs = wipe σ vs := by
  refine List.ext_getElem? fun j => ?_
  rw [wipe_get, wipe_get, hl]
  by_cases c : j ∈ vs ∧ j < σ.length
  · rw [if_pos c, if_pos c]
  · rw [if_neg c, if_neg c]
    by_cases hj : j ∈ vs
    · have hlt : ¬ j < σ.length := fun z => c ⟨hj, z⟩
      rw [List.getElem?_eq_none (by omega), List.getElem?_eq_none (by omega)]
    · rw [h j hj, wipe_get, if_neg c]
theorem wipeE_length (env : Fv) : ∀ vs : List Nat, (wipeE env vs).length = env.length
  | [] => rfl
  | v :: vs => by
    show ((wipeE env vs).set v none).length = _
    rw [List.length_set, wipeE_length env vs]
theorem wipeE_get {env : Fv} : ∀ {vs : List Nat} {j : Nat} {s : Sl}, (wipeE env vs)[j]? = some (some s) → env[j]? = some (some s) ∧ j ∉ vs
  | [], j, s, h => ⟨h, by simp⟩
  | v :: vs, j, s, h => by
    have h' : ((wipeE env vs).set v none)[j]? = some (some s) := h
    by_cases c : v = j
    · subst c
      rw [List.getElem?_set] at h'
      rw [if_pos rfl] at h'
      split at h' <;> cases h'
    · rw [List.getElem?_set_ne c] at h'
      obtain ⟨a, b⟩ := wipeE_get h'
      exact ⟨a, by rw [List.mem_cons, not_or]; exact ⟨fun q => c q.symm, b⟩⟩
theorem rd_wipe {vs : List Nat} {j : Nat} {t : T} (h : rd d j (wipeE env vs) = some t) : rd d j env = some t ∧ j ∉ vs := by
  unfold rd at h ⊢
  split at h
  · rename_i u e
    obtain ⟨a, b⟩ := wipeE_get e
    rw [a]
    exact ⟨h, b⟩
  · rename_i u e
    obtain ⟨a, b⟩ := wipeE_get e
    rw [a]
    exact ⟨h, b⟩
  · rename_i c n u e
    obtain ⟨a, b⟩ := wipeE_get e
    rw [a]
    exact ⟨h, b⟩
  · cases h
theorem RE.wipe (R : RE G d A env σ F) (vs : List Nat) : RE G d A (wipeE env vs) (L2.wipe σ vs) F where
  ok := R.ok
  len := by rw [wipeE_length, wipe_length]; exact R.len
  dep := R.dep
  slots := fun i t h => by
    obtain ⟨a, b⟩ := rd_wipe h
    obtain ⟨v, h1, h2⟩ := R.slots i t a
    refine ⟨v, ?_, h2⟩
    rw [wipe_get, if_neg (fun z => b z.1)]
    exact h1
/-- a target within a comprehension -/
def SC (G : Ge) (d : Nat) (own : List Nat) (g : TG) (tg : T → Fv → Option Fv) : Prop :=
  ∀ A env σ F H t v env1 (Q : L2.St → Hp → Prop), RE G d A env σ F → Ex F H → rep G A F t v → tg t env = some env1 → (∀ σ', RE G d A env1 σ' F → σ'.length = σ.length → (∀ j, j ∉ own → σ'[j]? = σ[j]?) → Q σ' H) → g v σ H Q
theorem sc_name {own : List Nat} {i : Nat} (hi : i ∈ own) : SC G d own (gName i) (S.tName i) := fun A env σ F H t v env1 Q R eH r e k => by
  unfold S.tName at e
  by_cases c : i < env.length
  · rw [if_pos c] at e
    cases e
    refine k _ ⟨R.ok, by rw [List.length_set, List.length_set]; exact R.len, R.dep, fun j u h => ?_⟩ (by rw [List.length_set]) fun j hj => ?_
    · by_cases q : i = j
      · subst q
        unfold rd at h
        rw [List.getElem?_set_self c] at h
        cases h
        exact ⟨v, List.getElem?_set_self (by rw [← R.len]; exact c), r⟩
      · have h2 : rd d j env = some u := by
          unfold rd at h ⊢
          rw [List.getElem?_set_ne q] at h
          exact h
        obtain ⟨w, h3, h4⟩ := R.slots j u h2
        exact ⟨w, by rw [List.getElem?_set_ne q]; exact h3, h4⟩
    · rw [List.getElem?_set_ne (fun q => hj (by rw [← q]; exact hi))]
  · rw [if_neg c] at e
    cases e
def SCs (G : Ge) (d : Nat) (own : List Nat) (g : TGs) (gs : List (T → Fv → Option Fv)) : Prop :=
  ∀ A env σ F H ts vs env1 (Q : L2.St → Hp → Prop), RE G d A env σ F → Ex F H → reps G A F ts vs → S.tNames gs ts env = some env1 → (∀ σ', RE G d A env1 σ' F → σ'.length = σ.length → (∀ j, j ∉ own → σ'[j]? = σ[j]?) → Q σ' H) → g vs σ H Q
theorem scs_nil {own : List Nat} : SCs G d own gNil [] := fun A env σ F H ts vs env1 Q R eH r e k => by
  cases ts with
  | nil =>
    have r' : vs = [] := r
    cases e
    exact ⟨r', k σ R rfl fun _ _ => rfl⟩
  | cons _ _ => cases e
theorem scs_cons {own : List Nat} {g : TG} {gg : TGs} {tg : T → Fv → Option Fv} {tgs : List (T → Fv → Option Fv)} (h1 : SC G d own g tg) (h2 : SCs G d own gg tgs) : SCs G d own (gCons g gg) (tg :: tgs) := fun A env σ F H ts vs env1 Q R eH r e k => by
  cases ts with
  | nil => cases e
  | cons t ts =>
    obtain ⟨v, ws, rfl, r1, r2⟩ := r
    obtain ⟨env2, e1, e2⟩ := Option.bind_eq_some_iff.mp (show (tg t env).bind (fun env => S.tNames tgs ts env) = some env1 from e)
    exact ⟨v, ws, rfl, h1 A env σ F H t v env2 _ R eH r1 e1 fun σ' R' h3 h4 => h2 A env2 σ' F H ts ws env1 Q R' eH r2 e2 fun σ2 R2 k3 k4 => k σ2 R2 (k3.trans h3) fun j hj => (k4 j hj).trans (h4 j hj)⟩
theorem sc_tup {own : List Nat} {n : Nat} {gg : TGs} {tgs : List (T → Fv → Option Fv)} (h : SCs G d own gg tgs) (hn : n = tgs.length) : SC G d own (gTup G.K n gg) (S.tTup tgs) := fun A env σ F H t v env1 Q R eH r e k => by
  cases t <;> (try cases e)
  rename_i ts
  obtain ⟨a, vs, rfl, h1, h2⟩ := r
  have e' : S.tNames tgs ts env = some env1 := e
  have hlen : ∀ (tgs : List (T → Fv → Option Fv)) (ts : List T) (env : Fv), S.tNames tgs ts env = some env1 → ts.length = tgs.length := by
    intro tgs
    induction tgs with
    | nil =>
      intro ts env e
      cases ts with
      | nil => rfl
      | cons _ _ => cases e
    | cons tg tgs ih =>
      intro ts env e
      cases ts with
      | nil => cases e
      | cons t ts =>
        obtain ⟨env2, e1, e2⟩ := Option.bind_eq_some_iff.mp (show (tg t env).bind (fun env => S.tNames tgs ts env) = some env1 from e)
        rw [List.length_cons, List.length_cons, ih ts env2 e2]
  exact ⟨a, vs, rfl, ex_t eH h1, by rw [h2.length, hn]; exact hlen tgs ts env e', h A env σ F H ts vs env1 Q R eH h2 e' k⟩
/-- where a comprehension stands -/
def CompAt (G : Ge) (A : Al) (F1 H1 : Hp) (tg : T → Fv → Option Fv) (b : P.Bx) (p : P.Ex1) (env : Fv) (xs all : List T) (Dl : Addr) (k : Nat) (H : Hp) : Prop :=
  ∃ F acc done rest, Grow F1 H1 F H ∧ F Dl = none ∧ H Dl = some (.lst acc) ∧ reps G A F done acc ∧ done.length ≤ k ∧ P.turnsC tg b p env (xs.drop k) = .ok rest ∧ all = done ++ rest
theorem sn_lc {wi : TI} {g : TG} {pi : Fv → Res (List T)} {own : List Nat} {tg : T → Fv → Option Fv} (hi : SI G d W wi pi) (hg : SC G d own g tg) (ht : ST G d W0 tt b) (he : SE G d W0 te p) : SN G d W (tLc wi g tt te own) (P.comp own tg pi b p) := fun A env σ F H Q R e o => by
  refine hi A env σ F H _ R e ?_
  have o' : Outg G A F H (fun F1 (ts : List T) (b : Addr × List V) => reps G A F1 ts b.2 ∧ F1 b.1 = none) (fun b H1 => H b.1 = none → H1 b.1 = some (.lst b.2) → Q (.ref b.1) H1) (WE W σ) ((pi env).bind fun xs => if lfit xs.length = true then P.turnsC tg b p (wipeE env own) xs else .stuck) := o
  cases z : pi env with
  | er e => rw [z] at o'; exact o'
  | stuck => rw [z] at o'; exact o'
  | ok xs =>
    rw [z] at o'
    intro J F1 H1 g1 hJ Dl hD
    have o1 : Outg G A F H (fun F1 (ts : List T) (b : Addr × List V) => reps G A F1 ts b.2 ∧ F1 b.1 = none) (fun b H1 => H b.1 = none → H1 b.1 = some (.lst b.2) → Q (.ref b.1) H1) (WE W σ) (if lfit xs.length = true then P.turnsC tg b p (wipeE env own) xs else .stuck) := o'
    obtain ⟨hz, o2⟩ := Outg.if_ o1
    have hz' : xs.length ≤ sizeLine := of_decide_eq_true hz
    cases y : P.turnsC tg b p (wipeE env own) xs with
    | er e =>
      -- nothing is raised
      exfalso
      have nx : ∀ xs, P.turnsC tg b p (wipeE env own) xs ≠ .er e := by
        intro xs
        induction xs with
        | nil => intro h; cases h
        | cons x xs ih =>
          intro h
          have h' : (match tg x (wipeE env own) with
            | some env1 => (match b env1 with
              | .ok b => if b = true then (match p env1 with
                  | .ok y => (P.turnsC tg ‹P.Bx› p (wipeE env own) xs).bind fun ys => .ok (y :: ys)
                  | _ => .stuck) else P.turnsC tg ‹P.Bx› p (wipeE env own) xs
              | _ => .stuck)
            | none => .stuck) = Res.er e := h
          split at h'
          · split at h'
            · split at h'
              · split at h'
                · cases q : P.turnsC tg b p (wipeE env own) xs with
                  | ok ys => rw [q] at h'; cases h'
                  | er e2 => rw [q] at h'; cases h'; exact ih q
                  | stuck => rw [q] at h'; cases h'
                · cases h'
              · exact ih h'
            · cases h'
          · cases h'
      exact nx xs y
    | stuck => rw [y] at o2; exact o2.elim
    | ok all =>
      rw [y] at o2
      have hF1 : F1 Dl = none := none_of_ex g1.sub hD
      have hH : H Dl = none := none_of_ex g1.keep hD
      refine ⟨fun k m H' => m = xs.length - k ∧ k ≤ xs.length ∧ CompAt G A F1 H1 tg b p (wipeE env own) xs all Dl k H', ⟨xs.length, by simp, Nat.zero_le _, F1, [], [], all, Grow.junk g1.sub hD, hF1, upd_same, rfl, Nat.le_refl _, y, rfl⟩, ?_⟩
      rintro k m H' ⟨rfl, hk, Fk, acc, done, rest, gk, hFk, hHk, rk, lk, tk, ek⟩
      have exk : Ex F1 Fk := gk.ex
      by_cases hlt : k < xs.length
      · refine .inr ⟨hJ.go k H' (exk.trans gk.sub) hlt, CompAt G A F1 H1 tg b p (wipeE env own) xs all Dl (k + 1), fun H'' p' => ⟨xs.length - (k + 1), by omega, rfl, hlt, p'⟩, fun x H2 yl => ?_⟩
        have hx : xs[k]? = some xs[k] := List.getElem?_eq_getElem hlt
        obtain ⟨F2, g2, rx⟩ := hJ.yld k Fk H' x H2 _ exk gk.sub hx yl
        rw [List.drop_eq_getElem_cons hlt] at tk
        have tk' : (match tg xs[k] (wipeE env own) with
          | some env1 => (match b env1 with
            | .ok bb => if bb = true then (match p env1 with
                | .ok y => (P.turnsC tg b p (wipeE env own) (xs.drop (k + 1))).bind fun ys => .ok (y :: ys)
                | _ => .stuck) else P.turnsC tg b p (wipeE env own) (xs.drop (k + 1))
            | _ => .stuck)
          | none => .stuck) = Res.ok rest := tk
        cases q : tg xs[k] (wipeE env own) with
        | none => rw [q] at tk'; cases tk'
        | some env1 =>
          simp only [q] at tk'
          have Rw : RE G d A (wipeE env own) (L2.wipe σ own) F2 := ((R.wipe own).mono (g1.ex.trans (exk.trans g2.ex)))
          refine hg A _ _ F2 H2 _ x env1 _ Rw g2.sub rx q fun σ' R' hl hw => ⟨wipe_eq (by rw [hl, wipe_length]) hw, ?_⟩
          refine ht A env1 σ' F2 H2 _ R' g2.sub ?_
          cases q2 : b env1 with
          | er e => simp only [q2] at tk'; cases tk'
          | stuck => simp only [q2] at tk'; cases tk'
          | ok bb =>
            simp only [q2] at tk'
            intro bv F3 H3 g3 eb
            subst eb
            have gA : Grow F1 H1 F3 H3 := (gk.trans g2).trans g3
            have hF3 : F3 Dl = none := (g2.trans g3).sep Dl hFk (by rw [hHk]; exact fun y => nomatch y)
            have hH3 : H3 Dl = some (.lst acc) := g3.keep _ _ (g2.keep _ _ hHk)
            cases bb with
            | false =>
              exact ⟨F3, acc, done, rest, gA, hF3, hH3, rk.mono (g2.ex.trans g3.ex), Nat.le_succ_of_le lk, tk', ek⟩
            | true =>
              show te σ' H3 _
              have tk2 : (match p env1 with
                | .ok y => (P.turnsC tg b p (wipeE env own) (xs.drop (k + 1))).bind fun ys => .ok (y :: ys)
                | _ => .stuck) = Res.ok rest := tk'
              refine he A env1 σ' F3 H3 _ (R'.mono g3.ex) g3.sub ?_
              cases q3 : p env1 with
              | er e => simp only [q3] at tk2; cases tk2
              | stuck => simp only [q3] at tk2; cases tk2
              | ok yt =>
                simp only [q3] at tk2
                intro yv F4 H4 g4 ry
                cases q4 : P.turnsC tg b p (wipeE env own) (xs.drop (k + 1)) with
                | er e => rw [q4] at tk2; cases tk2
                | stuck => rw [q4] at tk2; cases tk2
                | ok ys =>
                  rw [q4] at tk2
                  cases tk2
                  have hF4 : F4 Dl = none := g4.sep Dl hF3 (by rw [hH3]; exact fun y => nomatch y)
                  have hH4 : H4 Dl = some (.lst acc) := g4.keep _ _ hH3
                  have gB := gA.trans g4
                  have rk4 := (rk.mono (g2.ex.trans g3.ex)).mono g4.ex
                  refine ⟨acc, hH4, ?_, F4, acc ++ [yv], done ++ [yt], ys, ⟨gB.ex, fun a o2 h2 => ?_, fun a o2 h2 => ?_, gB.sep⟩, hF4, upd_same, rk4.append (reps.one ry), ?_, q4, ?_⟩
                  · have l := rk4.length
                    rw [l]
                    omega
                  · rw [upd_ne (fun c => by rw [c, hF4] at h2; cases h2)]
                    exact gB.sub a o2 h2
                  · rw [upd_ne (fun c => by rw [c, hD] at h2; cases h2)]
                    exact gB.keep a o2 h2
                  · rw [List.length_append, List.length_singleton]
                    omega
                  · rw [ek, List.append_assoc] <;> rfl
      · have ek2 : k = xs.length := by omega
        subst ek2
        refine .inl ⟨hJ.stop _ H' (exk.trans gk.sub) (Nat.le_refl _), ?_⟩
        rw [List.drop_eq_nil_of_le (Nat.le_refl _)] at tk
        cases tk
        rw [List.append_nil] at ek
        subst ek
        exact o2 (Dl, acc) Fk H' (g1.trans gk) ⟨rk, hFk⟩ hH hHk
end
end Py

set_option Elab.async false
set_option linter.all false
set_option maxRecDepth 100000
set_option maxHeartbeats 4000000
namespace Py
open PySem L2 PySem.Spec PyProof.Rows Evl

/-! ### the readings that say just what is asked -/
def cE (G : Ge) (d : Nat) (W : WX) (p : P.Ex1) : TE := fun σ H Q => ∃ A env F, RE G d A env σ F ∧ Ex F H ∧ Out G A F H Q (WE W σ) (p env)
def cT (G : Ge) (d : Nat) (W : WX) (p : P.Bx) : TT := fun σ H Q => ∃ A env F, RE G d A env σ F ∧ Ex F H ∧ OutB G A F H Q (WE W σ) (p env)
def cC (G : Ge) (d : Nat) (own : List Nat) (tg : T → Fv → Option Fv) : TG := fun v σ H Q => ∃ A env F t env1, RE G d A env σ F ∧ Ex F H ∧ rep G A F t v ∧ tg t env = some env1 ∧ (∀ σ', RE G d A env1 σ' F → σ'.length = σ.length → (∀ j, j ∉ own → σ'[j]? = σ[j]?) → Q σ' H)
def cI (G : Ge) (d : Nat) (W : WX) (p : Fv → Res (List T)) : TI := fun σ H Q => ∃ A env F, RE G d A env σ F ∧ Ex F H ∧ Outg G A F H (ItIs G A) Q (WE W σ) (p env)
section
variable {G : Ge} {d : Nat} {W : WX} {p : P.Ex1} {b : P.Bx} {own : List Nat} {tg : T → Fv → Option Fv} {pi : Fv → Res (List T)}
theorem se_cE : SE G d W (cE G d W p) p := fun A env σ F H Q R e o => ⟨A, env, F, R, e, o⟩
theorem st_cT : ST G d W (cT G d W b) b := fun A env σ F H Q R e o => ⟨A, env, F, R, e, o⟩
theorem sc_cC : SC G d own (cC G d own tg) tg := fun A env σ F H t v env1 Q R e r q k => ⟨A, env, F, t, env1, R, e, r, q, k⟩
theorem si_cI : SI G d W (cI G d W pi) pi := fun A env σ F H Q R e o => ⟨A, env, F, R, e, o⟩
end
structure DC (cl : Cl) (X : Cx) (d : Nat) (own : List Nat) (e : Expr) (tg : T → Fv → Option Fv) : Prop where
  ex : ∃ g, PG X e g ∧ SC ⟨X.K, cl⟩ d own g tg
structure DCs (cl : Cl) (X : Cx) (d : Nat) (own : List Nat) (e : List Expr) (tg : List (T → Fv → Option Fv)) : Prop where
  ex : ∃ g, PGs X e g ∧ SCs ⟨X.K, cl⟩ d own g tg
structure DTs (cl : Cl) (X : Cx) (d : Nat) (W : WX) (e : List Expr) (p : P.Bx) : Prop where
  ex : ∃ te, PTs X e te ∧ ST ⟨X.K, cl⟩ d W te p
section
variable {cl : Cl} {X : Cx} {d : Nat} {W : WX} {e e1 : Expr} {es : List Expr} {p : P.Ex1} {b : P.Bx} {own : List Nat} {tg : T → Fv → Option Fv} {tgs : List (T → Fv → Option Fv)} {pi : Fv → Res (List T)} {pos : Pos}
theorem DE.pe (h : DE cl X d W e p) : PE X e (cE ⟨X.K, cl⟩ d W p) := by
  obtain ⟨te, a1, a2⟩ := h
  exact ⟨fun pins s σ H Q I ⟨A, env, F, R, e, o⟩ => a1.run pins s σ H Q I (a2 A env σ F H Q R e o)⟩
theorem DTs.pt (h : DTs cl X d W es b) : PTs X es (cT ⟨X.K, cl⟩ d W b) := by
  obtain ⟨te, a1, a2⟩ := h
  exact ⟨fun pins s σ H Q I ⟨A, env, F, R, e, o⟩ => a1.run pins s σ H Q I (a2 A env σ F H Q R e o)⟩
theorem DC.pg (h : DC cl X d own e tg) : PG X e (cC ⟨X.K, cl⟩ d own tg) := by
  obtain ⟨te, a1, a2⟩ := h
  exact ⟨fun pins s σ H v u Q I r ⟨A, env, F, t, env1, R, e, r2, q, k⟩ => a1.run pins s σ H v u Q I r (a2 A env σ F H t v env1 Q R e r2 q k)⟩
theorem DI.pI {t : Expr} (h : DI cl X d W t e pi) : PI X t e (cI ⟨X.K, cl⟩ d W pi) := by
  obtain ⟨te, a1, a2⟩ := h
  exact ⟨fun pins s σ H Q I ⟨A, env, F, R, e, o⟩ => a1.run pins s σ H Q I (a2 A env σ F H Q R e o)⟩
theorem dts_nil : DTs cl X d W [] P.yes := ⟨_, pts_nil, fun A env σ F H Q R e o => OutB.here o e⟩
theorem dts_one (h : DT cl X d W e b) : DTs cl X d W [e] b := by
  obtain ⟨te, a1, a2⟩ := h
  exact ⟨_, pts_one a1, a2⟩
theorem dc_name {i : Nat} {x : Str} (ho : i ∈ own) (hN : X.N.Nodup) (hi : X.N[i]? = some x := by rfl) (hx : Loc X.env.scope x := by first | exact Or.inl rfl | exact Or.inr rfl) (hf : X.fn x = true ∨ X.env.scope.names.lookup x = some .local := by first | exact .inl rfl | exact .inr rfl) : DC cl X d own (.Name x pos) (S.tName i) := ⟨_, pg_name hN hi hx hf, sc_name ho⟩
theorem dcs_nil : DCs cl X d own [] [] := ⟨_, pgs_nil, scs_nil⟩
end
section
variable {cl : Cl} {X : Cx} {d : Nat} {W : WX} {elt iter tg : Expr} {ifs : List Expr} {p : P.Ex1} {b : P.Bx} {own : List (Str × Nat)} {tgT : T → Fv → Option Fv} {pi : Fv → Res (List T)} {pos spos py : Pos} {scope : Scope}
/-- the context within a comprehension -/
abbrev XBlk (X : Cx) (sc : Scope) (s : Shared) (H : Hp) (C : Addr) (c : List (Str × Addr)) (fp : List Addr) : Cx := X.blk s H sc (compEnvC sc c C X.env) fp
theorem dn_lc (hN : X.N.Nodup) (hi : DI cl X d W tg iter pi) (ok : BlkOk X.N X.env.scope scope own)
    (hg : ∀ (s : Shared) (H : Hp) (C : Addr) (c : List (Str × Addr)) (fp : List Addr), DC cl (XBlk X scope s H C c fp) d (own.map (·.2)) tg tgT) (ht : ∀ (s : Shared) (H : Hp) (C : Addr) (c : List (Str × Addr)) (fp : List Addr), DTs cl (XBlk X scope s H C c fp) d W0 ifs b)
    (he : ∀ (s : Shared) (H : Hp) (C : Addr) (c : List (Str × Addr)) (fp : List Addr), DE cl (XBlk X scope s H C c fp) d W0 elt p) (hc : X.calm = true := by rfl) (hs : ∀ x, foldedSetIterable iter X.env x = pure x := by intro _; rfl) :
    DN cl X d W (.ListComp elt [⟨tg, iter, ifs, 0⟩] scope pos) (P.comp (own.map (·.2)) tgT pi b p) :=
  ⟨_, pe_lc hc hN hi.pI ok (fun s H C c fp => (hg s H C c fp).pg) (fun s H C c fp => (ht s H C c fp).pt) (fun s H C c fp => (he s H C c fp).pe) hs, sn_lc si_cI sc_cC st_cT se_cE⟩
theorem DN.de {e : Expr} {pn : Fv → Res (List T)} (h : DN cl X d W e pn) : DE cl X d W e (fun env => (pn env).bind fun ts => .ok (.lst none ts)) := by
  obtain ⟨te, a1, a2⟩ := h
  exact ⟨_, a1, a2.se⟩
/-- y = [..], frozen -/
theorem ds_asgLc {i : Nat} {y : Str} (hN : X.N.Nodup) (hi : DI cl X d W tg iter pi) (ok : BlkOk X.N X.env.scope scope own)
    (hg : ∀ (s : Shared) (H : Hp) (C : Addr) (c : List (Str × Addr)) (fp : List Addr), DC cl (XBlk X scope s H C c fp) d (own.map (·.2)) tg tgT) (ht : ∀ (s : Shared) (H : Hp) (C : Addr) (c : List (Str × Addr)) (fp : List Addr), DTs cl (XBlk X scope s H C c fp) d W0 ifs b)
    (he : ∀ (s : Shared) (H : Hp) (C : Addr) (c : List (Str × Addr)) (fp : List Addr), DE cl (XBlk X scope s H C c fp) d W0 elt p) (hsw : swapsWith (.ListComp elt [⟨tg, iter, ifs, 0⟩] scope pos) (some (.Name y py)) spos.line X.env = pure true) (hy : X.N[i]? = some y := by rfl) (hyl : X.env.scope.names.lookup y = some .local := by rfl) (hc : X.calm = true := by rfl) (hs : ∀ x, foldedSetIterable iter X.env x = pure x := by intro _; rfl) :
    DS cl X d W (.Assign [.Name y py] (.ListComp elt [⟨tg, iter, ifs, 0⟩] scope pos) spos) (S.asg i (P.lc (own.map (·.2)) tgT pi b p)) :=
  ⟨_, ps_setLc hc hN hy hyl hsw hi.pI ok (fun s H C c fp => (hg s H C c fp).pg) (fun s H C c fp => (ht s H C c fp).pt) (fun s H C c fp => (he s H C c fp).pe) hs, ss_asg (SN.se (sn_lc si_cI sc_cC st_cT se_cE))⟩
theorem ds_newLc {i : Nat} {y : Str} (hN : X.N.Nodup) (hi : DI cl X d W tg iter pi) (ok : BlkOk X.N X.env.scope scope own)
    (hg : ∀ (s : Shared) (H : Hp) (C : Addr) (c : List (Str × Addr)) (fp : List Addr), DC cl (XBlk X scope s H C c fp) d (own.map (·.2)) tg tgT) (ht : ∀ (s : Shared) (H : Hp) (C : Addr) (c : List (Str × Addr)) (fp : List Addr), DTs cl (XBlk X scope s H C c fp) d W0 ifs b)
    (he : ∀ (s : Shared) (H : Hp) (C : Addr) (c : List (Str × Addr)) (fp : List Addr), DE cl (XBlk X scope s H C c fp) d W0 elt p) (hsw : swapsWith (.ListComp elt [⟨tg, iter, ifs, 0⟩] scope pos) (some (.Name y py)) spos.line X.env = pure true) (hy : X.N[i]? = some y := by rfl) (hyl : X.env.scope.names.lookup y = some .local := by rfl) (hc : X.calm = true := by rfl) (hs : ∀ x, foldedSetIterable iter X.env x = pure x := by intro _; rfl) :
    DS cl X d W (.Assign [.Name y py] (.ListComp elt [⟨tg, iter, ifs, 0⟩] scope pos) spos) (S.new i (P.comp (own.map (·.2)) tgT pi b p)) :=
  ⟨_, ps_setLc hc hN hy hyl hsw hi.pI ok (fun s H C c fp => (hg s H C c fp).pg) (fun s H C c fp => (ht s H C c fp).pt) (fun s H C c fp => (he s H C c fp).pe) hs, ss_new (sn_lc si_cI sc_cC st_cT se_cE)⟩
end
end Py

set_option Elab.async false
set_option linter.all false
set_option maxRecDepth 100000
set_option maxHeartbeats 4000000
namespace Py
open PySem L2 PySem.Spec PyProof.Rows Evl

/-! ### isinstance, a built-in class -/
/-- the name of a tree's class, if it is a built-in one -/
def T.tyn : T → Option String
  | .non => some "NoneType"
  | .bl _ => some "bool"
  | .int _ => some "int"
  | .str _ => some "str"
  | .lst _ _ => some "list"
  | .ro _ => none
  | .tup _ => some "tuple"
  | .ins _ _ _ _ => none
  | .exn _ _ _ => none
def T.isi (c : String) (t : T) : Option T := match t.tyn with
  | some n => (kitB n c).map .bl
  | none => none
section
variable {cl : Cl} {X : Cx} {G : Ge} {A : Al} {F H : Hp} {Q : VK} {E : XK} {d : Nat} {W : WX} {e : Expr} {p : P.Ex1} {pos p1 p2 : Pos} {c : String} {xc : Str}
theorem tyx_of {t : T} {v : V} {n : String} (h : rep G A F t v) (q : t.tyn = some n) : TyX G.K F v (.type n) := by
  cases t <;> cases q
  · cases h; exact .base .non
  · cases h; exact .base (.bl _)
  · cases h; exact .base (.int _)
  · cases h; exact .base (.str _)
  · obtain ⟨a, vs, rfl, h2, _⟩ := h
    exact .base (.lst h2)
  · obtain ⟨a, vs, rfl, h2, _⟩ := h
    rcases h2 with (h2 | ⟨o, h2⟩) | ⟨o, its, n, h2, h3, _⟩
    · exact .base (.tup h2)
    · exact .fTuple h2
    · exact .kTuple h2 h3
theorem tyx_mono {K : PySem.W.Frag} {v : V} {n : String} (e : Ex F H) (h : TyX K F v (.type n)) : TyX K H v (.type n) := by
  cases h with
  | base h =>
    cases h with
    | non => exact .base .non
    | bl b => exact .base (.bl b)
    | int b => exact .base (.int b)
    | str b => exact .base (.str b)
    | flt b => exact .base (.flt b)
    | lst h => exact .base (.lst (e _ _ h))
    | frz h => exact .base (.frz (e _ _ h))
    | tup h => exact .base (.tup (e _ _ h))
    | dK h => exact .base (.dK (e _ _ h))
    | dT h => exact .base (.dT (e _ _ h))
  | byt b => exact .byt b
  | set h => exact .set (e _ _ h)
  | kList h k => exact .kList h k
  | kTuple h k => exact .kTuple h k
  | kDict h k => exact .kDict h k
  | fTuple h => exact .fTuple (e _ _ h)
  | fDict h => exact .fDict (e _ _ h)
theorem de_isi (hm : X.mg "isinstance" = none) (hc : X.mg xc = none) (hv : bootBuiltins xc = some (.type c)) (h : DE cl X d W e p) (hn : xc ≠ "__name__" := by decide) (hd : (xc == ("__debug__" : Str)) = false := by decide) (hg : Gl X "isinstance" := by rfl) (hg2 : Gl X xc := by rfl)
    (he : starEach [e, .Name xc p2] X.env = (false, eval e X.env) :: starEach [.Name xc p2] X.env := by rfl) (he2 : starEach [.Name xc p2] X.env = (false, eval (.Name xc p2) X.env) :: starEach [] X.env := by rfl) (hpl : (backTo pos (starEach [.Name xc p2] X.env)).any (·.1) = false := by rfl) :
    DE cl X d W (.Call (.Name "isinstance" p1) [e, .Name xc p2] [] pos) (P.un (T.isi c) p) := by
  obtain ⟨te, a1, a2⟩ := h
  refine ⟨_, pe_callB call_isi hg hm (by decide +kernel) (pa_cons a1 (pa_cons (pe_bltn (v := .ty c) hg2 hc hv rfl hn hd) pa_nil he2) he) (by decide) (by decide) he hpl, fun A env σ F H Q R e o => a2 A env σ F H _ R e (Outg.bind o fun x v F1 H1 g1 rx o1 => ?_)⟩
  unfold T.isi at o1
  cases q : x.tyn with
  | none => rw [q] at o1; exact o1.elim
  | some n =>
    rw [q] at o1
    cases q2 : kitB n c with
    | none => simp only [q2] at o1; exact o1.elim
    | some b =>
      simp only [q2] at o1
      exact ⟨v, .ty c, .type n, .type c, b, rfl, .ty c, tyx_mono g1.sub (tyx_of rx q), kit_ty q2, Out.here o1 g1.sub rfl⟩
end
end Py

set_option Elab.async false
set_option linter.all false
set_option maxRecDepth 100000
set_option maxHeartbeats 4000000
namespace Py
open PySem L2 PySem.Spec PyProof.Rows Evl

/-! ### a class of errors -/
def oexB (K : PySem.W.Frag) (C : Addr) : Bool := (match K.lookup C with
  | some ⟨.type "type", _, .cls cd, sl⟩ => (match cd.mro, sl.toList with
    | .ref C' :: bm, [_, _, _, _, some (.builtin n), _] => C' == C && n == "ValueError.__new__" && !cd.hasDel && cd.hasDict && PySem.HandSPX.refsVE bm
    | _, _ => false)
  | _ => false) && (He.eqO (PySem.W.findIn K (.ref C) "__setattr__") (some (some (.builtin "object.__setattr__"))) && (decide (PySem.W.subIn K (.ref C) (.type "BaseException") = some true) && (decide (PySem.W.typeIn K (.ref C) = some (.type "type")) && PySem.W.keepIn K (.ref C))))
theorem oexB_ok {K : PySem.W.Frag} {C : Addr} (h : oexB K C = true) : OexC K C := by
  obtain ⟨h1, h⟩ := band h
  obtain ⟨h2, h⟩ := band h
  obtain ⟨h3, h⟩ := band h
  obtain ⟨h4, h5⟩ := band h
  refine ⟨?_, He.eqO_ok h2, of_decide_eq_true h3, of_decide_eq_true h4, h5⟩
  split at h1
  · rename_i dd cd sl ho
    split at h1
    · rename_i C' bm k0 k1 k2 k3 n k5 hm hs
      simp only [Bool.and_eq_true, beq_iff_eq, Bool.not_eq_true'] at h1
      obtain ⟨⟨⟨⟨rfl, rfl⟩, hdel⟩, hdi⟩, ht⟩ := h1
      obtain ⟨nm, bs, mro, ns, qn, hd, sn, sub, ab, col, del⟩ := cd
      dsimp only at hm hdel hdi
      subst hm hdel hdi
      have hsl : sl = #[k0, k1, k2, k3, some (.builtin "ValueError.__new__"), k5] := by
        obtain ⟨l⟩ := sl
        simp only at hs
        rw [hs]
      subst hsl
      exact ⟨nm, qn, ns, bs, bm, sn, sub, ab, col, dd, k0, k1, k2, k3, k5, ho, ht⟩
    · cases h1
  · cases h1
/-- what isinstance asks of such a class -/
structure IsC (K : PySem.W.Frag) (C : Addr) : Prop where
  cl : (PySem.W.clsIn K C).isSome = true
  ga : PySem.W.findIn K (.ref C) "__getattribute__" = some (some (.builtin "BaseException.__getattribute__"))
  gg : PySem.W.findIn K (.ref C) "__getattr__" = some none
  sub : PySem.W.subIn K (.ref C) (.type "BaseException") = some true
  ha : PySem.W.findIn K (.ref C) "__class__" = some (some (.builtin "object.__class__"))
  hn : PySem.W.specialIn K (.builtin "object.__class__") "__get__" = some (some (.builtin "getset_descriptor.__get__"))
  tk : PySem.W.takesIn K (.builtin "object.__class__") = some true
  mr : PySem.W.mroIn K C (.type "object") = some true
def isB (K : PySem.W.Frag) (C : Addr) : Bool := (PySem.W.clsIn K C).isSome && (decide (PySem.W.findIn K (.ref C) "__getattribute__" = some (some (.builtin "BaseException.__getattribute__"))) && (decide (PySem.W.findIn K (.ref C) "__getattr__" = some none) && (decide (PySem.W.subIn K (.ref C) (.type "BaseException") = some true) &&
  (decide (PySem.W.findIn K (.ref C) "__class__" = some (some (.builtin "object.__class__"))) && (decide (PySem.W.specialIn K (.builtin "object.__class__") "__get__" = some (some (.builtin "getset_descriptor.__get__"))) && (decide (PySem.W.takesIn K (.builtin "object.__class__") = some true) && decide (PySem.W.mroIn K C (.type "object") = some true)))))))
theorem isB_ok {K : PySem.W.Frag} {C : Addr} (h : isB K C = true) : IsC K C := by
  obtain ⟨h1, h⟩ := band h
  obtain ⟨h2, h⟩ := band h
  obtain ⟨h3, h⟩ := band h
  obtain ⟨h4, h⟩ := band h
  obtain ⟨h5, h⟩ := band h
  obtain ⟨h6, h⟩ := band h
  obtain ⟨h7, h8⟩ := band h
  exact ⟨h1, of_decide_eq_true h2, of_decide_eq_true h3, of_decide_eq_true h4, of_decide_eq_true h5, of_decide_eq_true h6, of_decide_eq_true h7, of_decide_eq_true h8⟩

/-! ### an error's __init__ that stores its parameters -/
def spXI (C : Addr) (ns : List Str) : Sp := fun vs H Q E => ∃ a ws, vs = .ref a :: ws ∧ ws.length = ns.length ∧ H a = some (exo a C none) ∧ ∀ dx H', H dx = none → dx ≠ a → H' a = some (exo a C (some dx)) → H' dx = some (exd dx (ns.zip ws).reverse) → (∀ b, b ≠ a → b ≠ dx → H' b = H b) → Q .non H'
section
variable {K : PySem.W.Frag} {C a dx : Addr} {σ : L2.St} {H : Hp} {D : Ends} {f : Str} {i : Nat} {y : V} {fs : List (Str × V)}
theorem rd_ost1 (h0 : σ[0]? = some (some (.ref a))) (hi : σ[i]? = some (some y)) (T : OexC K C) (no : PySem.W.findIn K (.ref C) f = some none) (ha : H a = some (exo a C none))
    (k : ∀ dx, H dx = none → dx ≠ a → D.nx σ (upd (upd H dx (exd dx [(f, y)])) a (exo a C (some dx)))) : tOst K f (tVar 0) (tVar i) D σ H := ⟨y, hi, _, h0, a, C, rfl, T, no, .inl ⟨ha, k⟩⟩
theorem rd_ost2 (h0 : σ[0]? = some (some (.ref a))) (hi : σ[i]? = some (some y)) (T : OexC K C) (no : PySem.W.findIn K (.ref C) f = some none) (ha : H a = some (exo a C (some dx))) (hd : H dx = some (exd dx fs)) (hl : fs.length ≤ 900)
    (k : D.nx σ (upd H dx (exd dx ((f, y) :: fs)))) : tOst K f (tVar 0) (tVar i) D σ H := ⟨y, hi, _, h0, a, C, rfl, T, no, .inr ⟨dx, fs, ha, hd, hl, k⟩⟩
end
/-- a class of errors with its __init__, as its raisers use it -/
structure Xok (cl : Cl) (P : Program) (w : World) (K : PySem.W.Frag) (mg : Str → Option Value) (base : Heap) (x : Str) (c : Nat) (ns : List Str) : Prop where
  ex : ∃ fI fd ps k, OexC K (cl.f c) ∧ PySem.W.findIn K (.ref (cl.f c)) "__init__" = some (some (.ref fI)) ∧ PySem.W.typeIn K (.ref fI) = some (.type "function") ∧ FnOk P w K mg base (L2.CX P w) 1 fI fd ps (spXI (cl.f c) ns) ∧ Binds K fd ps [] ∧ mg x = some (.ref (cl.f c)) ∧ k = 1
namespace S
def raise_ (c : Nat) (ns : List Str) (a : P.Ax) : Sx := fun env => (a (hide env)).then_ env fun ts => if ts.length = ns.length ∧ ts.length ≤ 1000 then .er ⟨c, ns, ts.reverse⟩ env else .stuck
def raise0 (c : Nat) : Sx := fun env => .er ⟨c, [], []⟩ env
end S
section
variable {cl : Cl} {X : Cx} {G : Ge} {d : Nat} {W : WX} {e : Expr} {es : List Expr} {a : P.Ax} {ta : TA} {x : Str} {p1 pos : Pos} {ns : List Str} {c : Nat}
theorem zip_rev {α β : Type} : ∀ {xs : List α} {ys : List β}, xs.length = ys.length → (xs.zip ys).reverse = xs.reverse.zip ys.reverse
  | [], [], _ => rfl
  | x :: xs, y :: ys, h => by
    have h' : xs.length = ys.length := by simpa using h
    rw [List.zip_cons_cons, List.reverse_cons, List.reverse_cons, List.reverse_cons, zip_rev h', List.zip_append (by rw [List.length_reverse, List.length_reverse]; exact h')]
    rfl
theorem ss_raise (ha : SA G d W ta a) : SS G d W (fun _ σ H => tMkO (G.cl c) (spXI (G.cl c) ns) [] ta σ H fun cls d H' => W cls d σ H') (S.raise_ c ns.reverse a) := fun A0 F0 H0 A env σ F H D R o =>
  R.runA ha o fun ts vs F1 H1 R1 rs o1 => by
    obtain ⟨⟨hl, hz⟩, o2⟩ := OutS.of_if o1
    rw [List.length_reverse] at hl
    refine ⟨by rw [rs.length]; exact hz, fun b hb => ⟨b, vs, by rw [List.append_nil], by rw [rs.length]; exact hl, upd_same, fun dx H' hd hne hHa hHd hr => ⟨rfl, dx, _, hHa, hHd, ?_, ?_⟩⟩⟩
    · rw [upd_ne hne] at hd
      exact hd
    · have hd1 : H1 dx = none := by
        rw [upd_ne hne] at hd
        exact hd
      have eH : upd (del H' b) dx (.xd (ns.zip vs).reverse) = upd H1 dx (.xd (ns.zip vs).reverse) := by
        funext q
        by_cases c1 : q = dx
        · rw [c1, upd_same, upd_same]
        · rw [upd_ne c1, upd_ne c1]
          by_cases c2 : q = b
          · rw [c2, del_same, hb]
          · rw [del_ne c2, hr q c2 c1, upd_ne c2]
      rw [eH]
      have g := Grow.new (o := .xd (ns.zip vs).reverse) R1.sub hd1
      refine o2 A σ _ _ (some dx) (R1.grow g) (.inr ⟨dx, vs.reverse, rfl, ?_, ?_, ?_⟩)
      · rw [upd_same, zip_rev (by rw [rs.length, hl])]
      · show vs.reverse.length = ns.reverse.length
        rw [List.length_reverse, List.length_reverse, rs.length, hl]
      · exact (rs.mono g.ex).reverse
theorem passL0 : Passes (L2.CX X.prog X.w) X (fun _ _ _ => False) := passL
theorem ds_raise {ns' : List Str} (Q : Xok cl X.prog X.w X.K X.mg X.base x c ns) (hr : Room 2 X.A) (ha : DA cl X d W (e :: es) a) (tk : Takes X W := by exact tk_of) (hns : ns' = ns.reverse := by rfl) (hc : X.calm = true := by rfl) (hg : Gl X x := by rfl) (hdb : (x == ("__debug__" : Str)) = false := by decide)
    (he : starEach (e :: es) X.env = (false, eval e X.env) :: starEach es X.env := by rfl) (hpl : (backTo p1 (starEach es X.env)).any (·.1) = false := by rfl) {p : Pos} : DS cl X d W (.Raise (some (.Call (.Name x p) (e :: es) [] p1)) none pos) (S.raise_ c ns' a) := by
  subst hns
  obtain ⟨t, c1, c2⟩ := ha
  obtain ⟨fI, fd, ps, k, T, iC, tI, F1, hb, hm, _⟩ := Q
  exact ⟨_, ps_raise hc tk (pmk_oex (dvs := []) (ds := []) T iC tI F1 hr hb .nil passL0 hg hm c1 hdb he hpl), ss_raise c2⟩
end

/-! ### try .. except C as e: .. over one call -/
mutual
def noX : T → Bool
  | .lst _ ts => noXs ts
  | .tup ts => noXs ts
  | .ro ts => noXs ts
  | .ins _ _ _ ts => noXs ts
  | .exn _ _ _ => false
  | _ => true
def noXs : List T → Bool
  | [] => true
  | t :: ts => noX t && noXs ts
end
def noXS : Option Sl → Bool
  | some (.fz t) => noX t
  | some (.ol ts) => noXs ts
  | some (.oi _ _ ts) => noXs ts
  | none => true
def Cl.hold (cl : Cl) (x : Addr × Value × Option Addr) : Cl := { cl with xh := some x }
section
variable {K : PySem.W.Frag} {cl : Cl} {x : Addr × Value × Option Addr} {A : Al} {F : Hp}
mutual
theorem rep.hold (h0 : cl.xh = none) : ∀ {t : T} {v : V}, rep ⟨K, cl⟩ A F t v → rep ⟨K, cl.hold x⟩ A F t v
  | .non, _, h => h
  | .bl _, _, h => h
  | .int _, _, h => h
  | .str _, _, h => h
  | .lst _ _, _, ⟨a, vs, e1, e2, e3, e4⟩ => ⟨a, vs, e1, e2, e3, reps.hold h0 e4⟩
  | .tup _, _, ⟨a, vs, e1, e2, e4⟩ => ⟨a, vs, e1, e2, reps.hold h0 e4⟩
  | .ro _, _, ⟨a, vs, e1, e2, e4⟩ => ⟨a, vs, e1, e2, reps.hold h0 e4⟩
  | .ins _ _ _ _, _, ⟨a, dx, vs, e1, e2, e3, e5, e4⟩ => ⟨a, dx, vs, e1, e2, e3, e5, reps.hold h0 e4⟩
  | .exn _ _ _, _, ⟨a, cls, dx, e1, _⟩ => by
    rw [show (⟨K, cl⟩ : Ge).c.xh = none from h0] at e1
    cases e1
theorem reps.hold (h0 : cl.xh = none) : ∀ {ts : List T} {vs : List V}, reps ⟨K, cl⟩ A F ts vs → reps ⟨K, cl.hold x⟩ A F ts vs
  | [], _, h => h
  | _ :: _, _, ⟨v, ws, e1, e2, e3⟩ => ⟨v, ws, e1, rep.hold h0 e2, reps.hold h0 e3⟩
end
mutual
theorem rep.drop : ∀ {t : T} {v : V}, noX t = true → rep ⟨K, cl.hold x⟩ A F t v → rep ⟨K, cl⟩ A F t v
  | .non, _, _, h => h
  | .bl _, _, _, h => h
  | .int _, _, _, h => h
  | .str _, _, _, h => h
  | .lst _ _, _, n, ⟨a, vs, e1, e2, e3, e4⟩ => ⟨a, vs, e1, e2, e3, reps.dropX n e4⟩
  | .tup _, _, n, ⟨a, vs, e1, e2, e4⟩ => ⟨a, vs, e1, e2, reps.dropX n e4⟩
  | .ro _, _, n, ⟨a, vs, e1, e2, e4⟩ => ⟨a, vs, e1, e2, reps.dropX n e4⟩
  | .ins _ _ _ _, _, n, ⟨a, dx, vs, e1, e2, e3, e5, e4⟩ => ⟨a, dx, vs, e1, e2, e3, e5, reps.dropX n e4⟩
  | .exn _ _ _, _, n, _ => by cases n
theorem reps.dropX : ∀ {ts : List T} {vs : List V}, noXs ts = true → reps ⟨K, cl.hold x⟩ A F ts vs → reps ⟨K, cl⟩ A F ts vs
  | [], _, _, h => h
  | _ :: _, _, n, ⟨v, ws, e1, e2, e3⟩ => by
    obtain ⟨n1, n2⟩ := band n
    exact ⟨v, ws, e1, rep.drop n1 e2, reps.dropX n2 e3⟩
end
theorem Rel.hold {d : Nat} {A0 : Al} {F0 H0 H : Hp} {env : Fv} {σ : L2.St} (h0 : cl.xh = none) (R : Rel ⟨K, cl⟩ d A0 F0 H0 A env σ F H) : Rel ⟨K, cl.hold x⟩ d A0 F0 H0 A env σ F H :=
  ⟨R.ok0, R.dep0, R.len, R.agree, R.dep, R.inj, R.own, R.exF, R.sub, R.keep, R.sep, fun i t e => let ⟨v, h1, h2⟩ := R.fz i t e; ⟨v, h1, h2.hold h0⟩,
    fun i ts e => let ⟨p, vs, h1, h2, h3, h4⟩ := R.ol i ts e; ⟨p, vs, h1, h2, h3, h4.hold h0⟩, fun i c ns ts e => let ⟨p, dx, vs, h1, h2, h3, h5, h4⟩ := R.oi i c ns ts e; ⟨p, dx, vs, h1, h2, h3, h5, h4.hold h0⟩⟩
theorem Rel.dropX {d : Nat} {A0 : Al} {F0 H0 H : Hp} {env : Fv} {σ : L2.St} (n : env.all noXS = true) (R : Rel ⟨K, cl.hold x⟩ d A0 F0 H0 A env σ F H) : Rel ⟨K, cl⟩ d A0 F0 H0 A env σ F H :=
  ⟨R.ok0, R.dep0, R.len, R.agree, R.dep, R.inj, R.own, R.exF, R.sub, R.keep, R.sep,
    fun i t e => let ⟨v, h1, h2⟩ := R.fz i t e; ⟨v, h1, h2.drop (List.all_eq_true.mp n _ (List.mem_of_getElem? e))⟩,
    fun i ts e => let ⟨p, vs, h1, h2, h3, h4⟩ := R.ol i ts e; ⟨p, vs, h1, h2, h3, h4.dropX (List.all_eq_true.mp n _ (List.mem_of_getElem? e))⟩,
    fun i c ns ts e => let ⟨p, dx, vs, h1, h2, h3, h5, h4⟩ := R.oi i c ns ts e; ⟨p, dx, vs, h1, h2, h3, h5, h4.dropX (List.all_eq_true.mp n _ (List.mem_of_getElem? e))⟩⟩
/-- a slot emptied -/
theorem Rel.gone {G : Ge} {d i : Nat} {A0 : Al} {F0 H0 H : Hp} {env : Fv} {σ : L2.St} (R : Rel G d A0 F0 H0 A env σ F H) : ∃ A', Rel G d A0 F0 H0 A' (env.set i none) (σ.set i none) F H := by
  refine ⟨fun g => if g = (d, i) then none else A g, R.ok0, R.dep0, by rw [List.length_set, List.length_set]; exact R.len, fun g z => ?_, fun g a z => ?_, fun g g' a z y => ?_, fun j a z => ?_, R.exF, R.sub, R.keep, R.sep, fun j u e => ?_, fun j u e => ?_, fun j cc ns u e => ?_⟩
  · show (if g = (d, i) then none else A g) = _
    rw [if_neg (fun y => by rw [y] at z; exact absurd z (Nat.lt_irrefl _))]
    exact R.agree g z
  · have z' : (if g = (d, i) then none else A g) = some a := z
    by_cases c : g = (d, i)
    · rw [if_pos c] at z'; cases z'
    · rw [if_neg c] at z'; exact R.dep g a z'
  · have z' : (if g = (d, i) then none else A g) = some a := z
    have y' : (if g' = (d, i) then none else A g') = some a := y
    by_cases c : g = (d, i)
    · rw [if_pos c] at z'; cases z'
    · by_cases c' : g' = (d, i)
      · rw [if_pos c'] at y'; cases y'
      · rw [if_neg c] at z'; rw [if_neg c'] at y'; exact R.inj g g' a z' y'
  · have z' : (if (d, j) = (d, i) then none else A (d, j)) = some a := z
    by_cases c : (d, j) = (d, i)
    · rw [if_pos c] at z'; cases z'
    · rw [if_neg c] at z'; exact R.own j a z'
  · have ne : i ≠ j := fun c => by
      subst c
      rw [List.getElem?_set, if_pos rfl] at e
      split at e <;> cases e
    rw [List.getElem?_set_ne ne] at e ⊢
    exact R.fz j u e
  · have ne : i ≠ j := fun c => by
      subst c
      rw [List.getElem?_set, if_pos rfl] at e
      split at e <;> cases e
    rw [List.getElem?_set_ne ne] at e ⊢
    obtain ⟨p, vs, h1, h2, h3⟩ := R.ol j u e
    refine ⟨p, vs, h1, ?_, h3⟩
    show (if (d, j) = (d, i) then none else A (d, j)) = some p
    rw [if_neg (fun y => ne (Prod.mk.inj y).2.symm)]
    exact h2
  · have ne : i ≠ j := fun c => by
      subst c
      rw [List.getElem?_set, if_pos rfl] at e
      split at e <;> cases e
    rw [List.getElem?_set_ne ne] at e ⊢
    obtain ⟨p, dx, vs, h1, h2, h3⟩ := R.oi j cc ns u e
    refine ⟨p, dx, vs, h1, ?_, h3⟩
    show (if (d, j) = (d, i) then none else A (d, j)) = some p
    rw [if_neg (fun y => ne (Prod.mk.inj y).2.symm)]
    exact h2
end
namespace S
/-- what a suite leaves -/
def done (i : Nat) : RS → RS
  | .nx env => if (env.set i none).all noXS = true then .nx (env.set i none) else .stuck
  | .rt t => if noX t = true then .rt t else .stuck
  | .br env => if (env.set i none).all noXS = true then .br (env.set i none) else .stuck
  | .ct env => if (env.set i none).all noXS = true then .ct (env.set i none) else .stuck
  | _ => .stuck
/-- try: s, except one of the classes whose answer ok c tells, as slot i: u; what is not taken goes on -/
def try_ (tk : Nat → Option Bool) (i : Nat) (s u : Sx) : Sx := fun env => match s env with
  | .er e env1 => (match tk e.c with
    | some true => if i < env1.length then done i (u (env1.set i (some (.fz (.exn e.c e.ns e.ts))))) else .stuck
    | some false => .er e env1
    | none => .stuck)
  | r => r
end S
section
variable {K : PySem.W.Frag} {cl : Cl} {d i : Nat} {W : WX} {s u : Sx} {tb : WX → TS} {ts : Addr → Value → Option Addr → TS} {c : Value} {tk : Nat → Option Bool}
/-- W: what is wished outside -/
theorem ss_try (h0 : cl.xh = none) (htk : ∀ n b, tk n = some b → PySem.W.exmOne K (.ref (cl.f n)) c = some b) (hb : ∀ W', SS ⟨K, cl⟩ d W' (tb W') s) (hu : ∀ a cls dx, SS ⟨K, cl.hold (a, cls, dx)⟩ d W0 (ts a cls dx) u) :
    SS ⟨K, cl⟩ d W (fun D σ H => tb (wAs K c i ts W D) D σ H) (S.try_ tk i s u) := fun A0 F0 H0 A env σ F H D R o => by
  refine hb _ A0 F0 H0 A env σ F H D R ?_
  have o' : OutS ⟨K, cl⟩ d A0 F0 H0 W D (match s env with
    | .er e env1 => (match tk e.c with
      | some true => if i < env1.length then S.done i (u (env1.set i (some (.fz (.exn e.c e.ns e.ts))))) else .stuck
      | some false => .er e env1
      | none => .stuck)
    | r => r) := o
  cases z : s env with
  | nx env => rw [z] at o'; exact o'
  | rt t => rw [z] at o'; exact o'
  | br env => rw [z] at o'; exact o'
  | ct env => rw [z] at o'; exact o'
  | stuck => rw [z] at o'; exact o'
  | er e env1 =>
    rw [z] at o'
    intro A1 σ1 F1 H1 dx R1 x1
    cases q : tk e.c with
    | none => simp only [q] at o'; exact o'.elim
    | some b =>
      refine ⟨b, htk _ _ q, fun hbt a ha => ?_, fun hbf => ?_⟩
      · subst hbt
        simp only [q] at o'
        obtain ⟨hi, o2⟩ := OutS.of_if o'
        have R2 : Rel ⟨K, cl.hold (a, .ref (cl.f e.c), dx)⟩ d A0 F0 H0 A1 env1 σ1 F1 H1 := R1.hold h0
        have rx : rep ⟨K, cl.hold (a, .ref (cl.f e.c), dx)⟩ A0 F1 (.exn e.c e.ns e.ts) (.ref a) := ⟨a, _, dx, rfl, rfl, rfl, match x1 with
          | .inl z => .inl z
          | .inr ⟨dd, vs, k1, k2, k3, k4⟩ => .inr ⟨dd, vs, k1, k2, k3, k4.hold h0⟩⟩
        obtain ⟨A2, R3⟩ := R2.set rx hi
        refine hu a _ dx A0 F0 H0 A2 _ _ F1 H1 _ R3 ?_
        cases z2 : u (env1.set i (some (.fz (.exn e.c e.ns e.ts)))) with
        | nx env2 =>
          rw [z2] at o2
          obtain ⟨n, o3⟩ := OutS.of_if o2
          intro A4 σ4 F4 H4 R4
          obtain ⟨A5, R5⟩ := R4.gone (i := i)
          exact o3 A5 _ F4 H4 (R5.dropX n)
        | br env2 =>
          rw [z2] at o2
          obtain ⟨n, o3⟩ := OutS.of_if o2
          intro A4 σ4 F4 H4 R4
          obtain ⟨A5, R5⟩ := R4.gone (i := i)
          exact o3 A5 _ F4 H4 (R5.dropX n)
        | ct env2 =>
          rw [z2] at o2
          obtain ⟨n, o3⟩ := OutS.of_if o2
          intro A4 σ4 F4 H4 R4
          obtain ⟨A5, R5⟩ := R4.gone (i := i)
          exact o3 A5 _ F4 H4 (R5.dropX n)
        | rt t =>
          rw [z2] at o2
          obtain ⟨n, o3⟩ := OutS.of_if o2
          intro v F4 H4 g r
          exact o3 v F4 H4 g (r.drop n)
        | er e2 env2 => rw [z2] at o2; exact o2.elim
        | stuck => rw [z2] at o2; exact o2.elim
      · subst hbf
        simp only [q] at o'
        exact o' A1 σ1 F1 H1 dx R1 x1
end
end Py

set_option Elab.async false
set_option linter.all false
set_option maxRecDepth 100000
set_option maxHeartbeats 4000000
namespace Py
open PySem L2 PySem.Spec PyProof.Rows Evl

/-! ### blocks: the reading that says just what is asked -/
def cB (G : Ge) (d : Nat) (W : WX) (s : Sx) : TS := fun D σ H => ∃ A0 F0 H0 A env F, Rel G d A0 F0 H0 A env σ F H ∧ OutS G d A0 F0 H0 W D (s env)
section
variable {G : Ge} {cl : Cl} {X : Cx} {d i : Nat} {W : WX} {s u : Sx} {b body suite : List Stmt} {b₀ : Stmt}
theorem ss_cB : SS G d W (cB G d W s) s := fun A0 F0 H0 A env σ F H D R o => ⟨A0, F0, H0, A, env, F, R, o⟩
theorem DB.pss (h : DB cl X d W b s) : PSs X b (cB ⟨X.K, cl⟩ d W s) := by
  obtain ⟨t, a1, a2⟩ := h
  exact ⟨fun pins s σ H D I ⟨A0, F0, H0, A, env, F, R, o⟩ => a1.run pins s σ H D I (a2 A0 F0 H0 A env σ F H D R o)⟩
theorem ds_try {x n : Str} {c : Value} {np pos pos' : Pos} {tk : Nat → Option Bool} (hN : X.N.Nodup) (hc : Names X x c) (htk : ∀ n b, tk n = some b → PySem.W.exmOne X.K (.ref (cl.f n)) c = some b)
    (hb : ∀ (W' : WX) (pn : List (Addr × Obj)) (xe : Value → Shared → Prop), Takes (X.tr pn xe) W' → PassesOwn (model X.prog X.w) X.A X.env xe → DB cl (X.tr pn xe) d W' body s)
    (hu : ∀ (a : Addr) (oe : Obj) (cls : Value) (dx : Option Addr) (pn : List (Addr × Obj)), Zc cls dx oe → (∃ vs, oe.data = .fields vs) → DB (cl.hold (a, cls, dx)) (X.suite a ((a, oe) :: pn)) d W0 (b₀ :: suite) u)
    (tkk : Takes X W) (h0 : cl.xh = none) (hi : X.N[i]? = some n := by rfl) (hln : X.env.kindOf n = some .local := by rfl) (hs : X.stack = X.env :: X.outer := by rfl) (hf : X.env.frame = some X.env.locals := by rfl) :
    DS cl X d W (.Try body [.ExceptHandler (some (.Name x np)) (some n) (b₀ :: suite) pos'] [] [] pos) (S.try_ tk i s u) :=
  ⟨_, ps_try_as hs hf hN hi hln hc tkk (tb := fun W' => cB ⟨X.K, cl⟩ d W' s) (ts := fun a cls dx => cB ⟨X.K, cl.hold (a, cls, dx)⟩ d W0 u) (fun W' pn xe t p => (hb W' pn xe t p).pss) (fun a oe cls dx pn z f => (hu a oe cls dx pn z f).pss), ss_try h0 htk (fun W' => ss_cB) (fun a cls dx => ss_cB)⟩
end
namespace S
def noEr : RS → RS
  | .er _ _ => .stuck
  | r => r
/-- without a name -/
def tryN (tk : Nat → Option Bool) (s u : Sx) : Sx := fun env => match s env with
  | .er e env1 => (match tk e.c with
    | some true => noEr (u env1)
    | some false => .er e env1
    | none => .stuck)
  | r => r
end S
section
variable {K : PySem.W.Frag} {cl : Cl} {X : Cx} {d i : Nat} {W : WX} {s u : Sx} {tb : WX → TS} {ts : Addr → Value → Option Addr → TS} {c : Value} {tk : Nat → Option Bool} {b body suite : List Stmt} {b₀ : Stmt}
theorem ss_tryN (htk : ∀ n b, tk n = some b → PySem.W.exmOne K (.ref (cl.f n)) c = some b) (hb : ∀ W', SS ⟨K, cl⟩ d W' (tb W') s) (hu : ∀ a cls dx, SS ⟨K, cl⟩ d W0 (ts a cls dx) u) :
    SS ⟨K, cl⟩ d W (fun D σ H => tb (wOnly K c ts W D) D σ H) (S.tryN tk s u) := fun A0 F0 H0 A env σ F H D R o => by
  refine hb _ A0 F0 H0 A env σ F H D R ?_
  have o' : OutS ⟨K, cl⟩ d A0 F0 H0 W D (match s env with
    | .er e env1 => (match tk e.c with
      | some true => S.noEr (u env1)
      | some false => .er e env1
      | none => .stuck)
    | r => r) := o
  cases z : s env with
  | nx env => rw [z] at o'; exact o'
  | rt t => rw [z] at o'; exact o'
  | br env => rw [z] at o'; exact o'
  | ct env => rw [z] at o'; exact o'
  | stuck => rw [z] at o'; exact o'
  | er e env1 =>
    rw [z] at o'
    intro A1 σ1 F1 H1 dx R1 x1
    cases q : tk e.c with
    | none => simp only [q] at o'; exact o'.elim
    | some b =>
      refine ⟨b, htk _ _ q, fun hbt a ha => ?_, fun hbf => ?_⟩
      · subst hbt
        simp only [q] at o'
        refine hu a _ dx A0 F0 H0 A1 _ _ F1 H1 _ R1 ?_
        cases z2 : u env1 with
        | nx env2 => rw [z2] at o'; exact o'
        | br env2 => rw [z2] at o'; exact o'
        | ct env2 => rw [z2] at o'; exact o'
        | rt t => rw [z2] at o'; exact o'
        | er e2 env2 => rw [z2] at o'; exact o'.elim
        | stuck => rw [z2] at o'; exact o'.elim
      · subst hbf
        simp only [q] at o'
        exact o' A1 σ1 F1 H1 dx R1 x1
theorem ds_tryN {x : Str} {np pos pos' : Pos} (hc : Names X x c) (htk : ∀ n b, tk n = some b → PySem.W.exmOne X.K (.ref (cl.f n)) c = some b)
    (hb : ∀ (W' : WX) (pn : List (Addr × Obj)) (xe : Value → Shared → Prop), Takes (X.tr pn xe) W' → PassesOwn (model X.prog X.w) X.A X.env xe → DB cl (X.tr pn xe) d W' body s)
    (hu : ∀ (a : Addr) (oe : Obj) (pn : List (Addr × Obj)), DB cl (X.suite a ((a, oe) :: pn)) d W0 (b₀ :: suite) u)
    (tkk : Takes X W) (hs : X.stack = X.env :: X.outer := by rfl) (hf : X.env.frame = some X.env.locals := by rfl) :
    DS cl X d W (.Try body [.ExceptHandler (some (.Name x np)) none (b₀ :: suite) pos'] [] [] pos) (S.tryN tk s u) :=
  ⟨_, ps_try_only hs hf hc tkk (tb := fun W' => cB ⟨X.K, cl⟩ d W' s) (ts := fun a cls dx => cB ⟨X.K, cl⟩ d W0 u) (fun W' pn xe t p => (hb W' pn xe t p).pss) (fun a oe cls dx pn z f => (hu a oe pn).pss), ss_tryN htk (fun W' => ss_cB) (fun a cls dx => ss_cB)⟩
end

/-! ### what a suite asks of the error that it holds -/
def T.isx (tk : Nat → Option Bool) : T → Option T
  | .exn c _ _ => (tk c).map .bl
  | _ => none
def DxOk (dx : Option Addr) (H : Hp) : Prop := dx = none ∨ ∃ dd fs, dx = some dd ∧ H dd = some (.xd fs)
def rIsX (K : PySem.W.Frag) (a : Addr) (cls : Value) (dx : Option Addr) : List V → Hp → VK → Prop := fun xs H Q => ∃ (D : Addr) (c : V) (u : Value) (b : Bool), cls = .ref D ∧ IsC K D ∧ DxOk dx H ∧ xs = [.ref a, c] ∧ ClsV c u ∧ PySem.W.kitOne K (.ref D) u = some b ∧ Q (.bl b) H
/-- or of the classes of a tuple -/
def rIsXT (K : PySem.W.Frag) (a : Addr) (cls : Value) (dx : Option Addr) : List V → Hp → VK → Prop := fun xs H Q => ∃ (D : Addr) (tp : Addr) (cs : List V) (us : List Value) (b : Bool), cls = .ref D ∧ IsC K D ∧ DxOk dx H ∧ xs = [.ref a, .ref tp] ∧ H tp = some (.tup cs) ∧ Paired ClsV cs us ∧ PySem.W.kitAny K (.ref D) us = some b ∧ Q (.bl b) H
section
variable {X : Cx} {a : Addr} {oe : Obj} {cls : Value} {dx : Option Addr} {pn : List (Addr × Obj)}
theorem inst_of {D : Addr} {pins : List (Addr × Obj)} {σ : L2.St} {H : Hp} {s : Shared} (I : Inv (X.suite a ((a, oe) :: pn)) pins σ H s) (hz : Zc (.ref D) dx oe) (hf : ∃ vs, oe.data = .fields vs) (hx : DxOk dx H) : ∃ od, PySem.W.InstAt s.heap a oe D od := by
  obtain ⟨hget, _⟩ := I.pin (a, oe) (List.mem_append.mpr (.inl List.mem_cons_self))
  obtain ⟨vs, hv⟩ := hf
  rcases hx with rfl | ⟨dd, fs, rfl, ea⟩
  · exact ⟨none, hget, hz.1, by unfold PySem.W.notCls; rw [hv] <;> rfl, by rw [hz.2]; trivial⟩
  · have hx : ObjOk X.prog X.w H s.heap dd (.xd fs) := I.hok dd _ ea
    obtain ⟨mA, hns, hr⟩ := hx
    obtain ⟨od, ho, hl⟩ := lookIn_ns hns
    exact ⟨some od, hget, hz.1, by unfold PySem.W.notCls; rw [hv] <;> rfl, by rw [hz.2]; exact ho⟩
theorem call_isX (hz : Zc cls dx oe) (hf : ∃ vs, oe.data = .fields vs) : CallR (X.suite a ((a, oe) :: pn)) (.builtin "isinstance") (rIsX X.K a cls dx) := by
  intro pins s σ H xs us Q I r h
  obtain ⟨D, c, u, b, rfl, C, hx, rfl, k, e, q⟩ := h
  obtain ⟨u1, u2, rfl, r1, r2⟩ := vals2 r
  have e2 := k.eq r2
  subst e2
  cases (show u1 = Value.ref a from r1)
  obtain ⟨od, J⟩ := inst_of I hz hf hx
  exact PySem.W.kia_one (PySem.W.kitx_exc C.cl C.ga C.gg C.sub C.ha C.hn C.tk C.mr) I.kIn J e (fun z => nomatch z) fun tk => ⟨.bl b, H, I.kept (t' := tk) fun _ _ z => z, rfl, q⟩
theorem call_isXT (hz : Zc cls dx oe) (hf : ∃ vs, oe.data = .fields vs) : CallR (X.suite a ((a, oe) :: pn)) (.builtin "isinstance") (rIsXT X.K a cls dx) := by
  intro pins s σ H xs us Q I r h
  obtain ⟨D, tp, cs, ws, b, rfl, C, hx, rfl, hT, k, e, q⟩ := h
  obtain ⟨u1, u2, rfl, r1, r2⟩ := vals2 r
  cases (show u2 = Value.ref tp from r2)
  cases (show u1 = Value.ref a from r1)
  obtain ⟨od, J⟩ := inst_of I hz hf hx
  obtain ⟨_, its, rv, o, h1, h2, n, h3⟩ := (show ObjOk X.prog X.w H s.heap tp (.tup cs) from I.hok tp _ hT)
  have e3 := ClsV.all k rv
  subst e3
  obtain ⟨oc, od', dt, sl⟩ := o
  simp only at h2 h3
  subst h2 h3
  exact PySem.W.kia_tup (PySem.W.kitx_exc C.cl C.ga C.gg C.sub C.ha C.hn C.tk C.mr) I.kIn J h1 e (fun z => nomatch z) fun tk => ⟨.bl b, H, I.tok tk, rfl, q⟩
/-- a class by its name: of the module, or a built-in type -/
structure NC (X : Cx) (x : Str) (u : Value) : Prop where
  ex : (∃ C, X.mg x = some (.ref C) ∧ u = .ref C) ∨ (∃ n, X.mg x = none ∧ bootBuiltins x = some (.type n) ∧ x ≠ "__name__" ∧ u = .type n)
theorem NC.pe {x : Str} {u : Value} {pos : Pos} (h : NC X x u) (hg : Gl X x) (hd : (x == ("__debug__" : Str)) = false) : ∃ v, ClsV v u ∧ PE X (.Name x pos) (tC v) := by
  rcases h.ex with ⟨C, h1, rfl⟩ | ⟨n, h1, h2, h3, rfl⟩
  · exact ⟨.ref C, .own C, pe_glob hg h1 rfl hd⟩
  · exact ⟨.ty n, .ty n, pe_bltn (v := .ty n) hg h1 h2 rfl h3 hd⟩
theorem NC.own {x : Str} {C : Addr} (h : X.mg x = some (.ref C)) : NC X x (.ref C) := ⟨.inl ⟨C, h, rfl⟩⟩
theorem NC.ty {x : Str} {n : String} (h : X.mg x = none) (hv : bootBuiltins x = some (.type n)) (hn : x ≠ "__name__" := by decide) : NC X x (.type n) := ⟨.inr ⟨n, h, hv, hn, rfl⟩⟩
/-- several -/
structure NCs (X : Cx) (es : List Expr) (us : List Value) : Prop where
  ex : ∃ vs, Paired ClsV vs us ∧ us.length = es.length ∧ PA X es (fun _ H Q => Q vs H)
theorem NCs.nil : NCs X [] [] := ⟨[], .nil, rfl, pa_nil⟩
theorem NCs.cons {x : Str} {u : Value} {pos : Pos} {es : List Expr} {us : List Value} (h : NC X x u) (k : NCs X es us) (hg : Gl X x := by rfl) (hd : (x == ("__debug__" : Str)) = false := by decide)
    (he : starEach (.Name x pos :: es) X.env = (false, eval (.Name x pos) X.env) :: starEach es X.env := by rfl) : NCs X (.Name x pos :: es) (u :: us) := by
  obtain ⟨v, h1, h2⟩ := h.pe (pos := pos) hg hd
  obtain ⟨vs, k1, k2, k3⟩ := k
  exact ⟨v :: vs, .cons h1 k1, by rw [List.length_cons, List.length_cons, k2], pa_cons h2 k3 he⟩
end
section
variable {cl : Cl} {X : Cx} {a : Addr} {oe : Obj} {cls : Value} {dx : Option Addr} {pn : List (Addr × Obj)} {e : Expr} {p : P.Ex1} {d : Nat} {W : WX} {tk : Nat → Option Bool} {pos p1 p2 : Pos} {x : Str}
theorem de_isX {u : Value} (hm : X.mg "isinstance" = none) (hc : NC X x u) (htk : ∀ n b, tk n = some b → IsC X.K (cl.f n) ∧ PySem.W.kitOne X.K (.ref (cl.f n)) u = some b) (hz : Zc cls dx oe) (hf : ∃ vs, oe.data = .fields vs)
    (h : DE (cl.hold (a, cls, dx)) (X.suite a ((a, oe) :: pn)) d W e p) (hd : (x == ("__debug__" : Str)) = false := by decide) (hg : Gl X "isinstance" := by rfl) (hg2 : Gl X x := by rfl)
    (he : starEach [e, .Name x p2] X.env = (false, eval e X.env) :: starEach [.Name x p2] X.env := by rfl) (he2 : starEach [.Name x p2] X.env = (false, eval (.Name x p2) X.env) :: starEach [] X.env := by rfl) (hpl : (backTo pos (starEach [.Name x p2] X.env)).any (·.1) = false := by rfl) :
    DE (cl.hold (a, cls, dx)) (X.suite a ((a, oe) :: pn)) d W (.Call (.Name "isinstance" p1) [e, .Name x p2] [] pos) (P.un (T.isx tk) p) := by
  obtain ⟨te, a1, a2⟩ := h
  obtain ⟨v, hv, hp⟩ := (show NC (X.suite a ((a, oe) :: pn)) x u from ⟨hc.ex⟩).pe (pos := p2) hg2 hd
  refine ⟨_, pe_callB (call_isX (X := X) hz hf) hg hm (by decide +kernel) (pa_cons a1 (pa_cons hp pa_nil he2) he) (by decide) (by decide) he hpl, fun A env σ F H Q R e o => a2 A env σ F H _ R e (Outg.bind o fun y w F1 H1 g1 rx o1 => ?_)⟩
  unfold T.isx at o1
  cases y with
  | exn c ns ts =>
    simp only at o1
    cases q : tk c with
    | none => rw [q] at o1; exact o1.elim
    | some b =>
      rw [q] at o1
      obtain ⟨a', cls', dx', e1, e2, e3, e4⟩ := rx
      have e1' : some (a, cls, dx) = some (a', cls', dx') := e1
      simp only [Option.some.injEq, Prod.mk.injEq] at e1'
      obtain ⟨ea, ec, ed⟩ := e1'
      subst ea ed e2
      obtain ⟨k1, k2⟩ := htk c b q
      refine ⟨_, v, u, b, ec.trans e3, k1, ?_, rfl, hv, k2, Out.here o1 g1.sub rfl⟩
      rcases e4 with ⟨_, _, e5⟩ | ⟨dd, vs, e5, e6, _⟩
      · exact .inl e5
      · exact .inr ⟨dd, _, e5, g1.sub _ _ e6⟩
  | _ => exact o1.elim
end
section
variable {cl : Cl} {X : Cx} {a : Addr} {oe : Obj} {cls : Value} {dx : Option Addr} {pn : List (Addr × Obj)} {e : Expr} {cs : List Expr} {p : P.Ex1} {d : Nat} {W : WX} {tk : Nat → Option Bool} {pos p1 p2 : Pos} {x : Str}
theorem paired_length {α β : Type} {F : α → β → Prop} : ∀ {xs : List α} {ys : List β}, Paired F xs ys → xs.length = ys.length
  | _, _, .nil => rfl
  | _, _, .cons _ k => by rw [List.length_cons, List.length_cons, paired_length k]
theorem de_isXT {us : List Value} {x1 : Nat} (hm : X.mg "isinstance" = none) (hc : NCs (X.suite a ((a, oe) :: pn)) cs us) (htk : ∀ n b, tk n = some b → IsC X.K (cl.f n) ∧ PySem.W.kitAny X.K (.ref (cl.f n)) us = some b) (hz : Zc cls dx oe) (hf : ∃ vs, oe.data = .fields vs)
    (h : DE (cl.hold (a, cls, dx)) (X.suite a ((a, oe) :: pn)) d W e p) (hlen : cs.length ≤ 1000 := by decide) (hg : Gl X "isinstance" := by rfl)
    (he : starEach [e, .Tuple cs x1 p2] X.env = (false, eval e X.env) :: starEach [.Tuple cs x1 p2] X.env := by rfl) (he2 : starEach [.Tuple cs x1 p2] X.env = (false, eval (.Tuple cs x1 p2) X.env) :: starEach [] X.env := by rfl) (hpl : (backTo pos (starEach [.Tuple cs x1 p2] X.env)).any (·.1) = false := by rfl) :
    DE (cl.hold (a, cls, dx)) (X.suite a ((a, oe) :: pn)) d W (.Call (.Name "isinstance" p1) [e, .Tuple cs x1 p2] [] pos) (P.un (T.isx tk) p) := by
  obtain ⟨te, a1, a2⟩ := h
  obtain ⟨vs, hv, hl, hp⟩ := hc
  refine ⟨_, pe_callB (call_isXT (X := X) hz hf) hg hm (by decide +kernel) (pa_cons a1 (pa_cons (pe_tup hp) pa_nil he2) he) (by decide) (by decide) he hpl, fun A env σ F H Q R e o => a2 A env σ F H _ R e (Outg.bind o fun y w F1 H1 g1 rx o1 => ?_)⟩
  unfold T.isx at o1
  cases y with
  | exn c ns ts =>
    simp only at o1
    cases q : tk c with
    | none => rw [q] at o1; exact o1.elim
    | some b =>
      rw [q] at o1
      obtain ⟨a', cls', dx', e1, e2, e3, e4⟩ := rx
      have e1' : some (a, cls, dx) = some (a', cls', dx') := e1
      simp only [Option.some.injEq, Prod.mk.injEq] at e1'
      obtain ⟨ea, ec, ed⟩ := e1'
      subst ea ed e2
      obtain ⟨k1, k2⟩ := htk c b q
      refine ⟨?_, fun q' hq => ?_⟩
      · rw [paired_length hv, hl]; exact Nat.le_trans hlen (by decide)
      · have gj : Grow F1 H1 F1 (upd H1 q' (.tup vs)) := Grow.junk g1.sub hq
        refine ⟨_, q', vs, us, b, ec.trans e3, k1, ?_, rfl, upd_same, hv, k2, Out.here (Outg.step gj o1) gj.sub rfl⟩
        rcases e4 with ⟨_, _, e5⟩ | ⟨dd, ws, e5, e6, _⟩
        · exact .inl e5
        · exact .inr ⟨dd, _, e5, gj.sub _ _ e6⟩
  | _ => exact o1.elim
end

/-! ### e.f -/
def T.xf (c : Nat) (f : Str) : T → Option T
  | .exn c' ns ts => if c' = c then (ns.zip ts).lookup f else none
  | _ => none
theorem zip_lookup {G : Ge} {A : Al} {F : Hp} {f : Str} : ∀ {ns : List Str} {ts : List T} {vs : List V} {t : T}, reps G A F ts vs → (ns.zip ts).lookup f = some t → ∃ v, (ns.zip vs).lookup f = some v ∧ rep G A F t v
  | [], _, _, _, _, h => by cases h
  | _ :: _, [], _, _, _, h => by cases h
  | n :: ns, t :: ts, vs, u, ⟨v, ws, e1, e2, e3⟩, h => by
    subst e1
    rw [List.zip_cons_cons, List.lookup_cons] at h ⊢
    cases q : (f == n) with
    | true => rw [q] at h; cases h; exact ⟨v, rfl, e2⟩
    | false => rw [q] at h; exact zip_lookup e3 h
section
variable {cl : Cl} {X : Cx} {a : Addr} {oe : Obj} {cls : Value} {dx : Option Addr} {pn : List (Addr × Obj)} {e : Expr} {p : P.Ex1} {d : Nat} {W : WX} {pos : Pos} {n : Str} {c : Nat}
theorem de_xf (C : XfC X.K (cl.f c)) (hno : PySem.W.findIn X.K (.ref (cl.f c)) n = some none) (hz : Zc cls dx oe) (hf : ∃ vs, oe.data = .fields vs) (h : DE (cl.hold (a, cls, dx)) (X.suite a ((a, oe) :: pn)) d W e p) (hb : attributeBase e n X.env (eval e X.env) = eval e X.env := by rfl) :
    DE (cl.hold (a, cls, dx)) (X.suite a ((a, oe) :: pn)) d W (.Attribute e n pos) (P.un (T.xf c n) p) := by
  obtain ⟨te, a1, a2⟩ := h
  refine ⟨_, pe_xf (X := X) C hno hz hf a1 hb, fun A env σ F H Q R e o => a2 A env σ F H _ R e (Outg.bind o fun y w F1 H1 g1 rx o1 => ?_)⟩
  unfold T.xf at o1
  cases y with
  | exn c' ns ts =>
    simp only at o1
    split at o1
    · rename_i hcc
      subst hcc
      cases q : (ns.zip ts).lookup n with
      | none => rw [q] at o1; exact o1.elim
      | some t =>
        rw [q] at o1
        obtain ⟨a', cls', dx', e1, e2, e3, e4⟩ := rx
        have e1' : some (a, cls, dx) = some (a', cls', dx') := e1
        simp only [Option.some.injEq, Prod.mk.injEq] at e1'
        obtain ⟨ea, ec, ed⟩ := e1'
        subst ea ed e2
        rcases e4 with ⟨e5, _, _⟩ | ⟨dd, vs, e5, e6, e7, e8⟩
        · subst e5; cases q
        · obtain ⟨v, hv, rv⟩ := zip_lookup e8 q
          exact ⟨rfl, ec.trans e3, dd, _, v, e5, g1.sub _ _ e6, hv, Out.here o1 g1.sub rv⟩
    · exact o1.elim
  | _ => exact o1.elim
end
end Py

set_option Elab.async false
set_option linter.all false
set_option maxRecDepth 100000
set_option maxHeartbeats 4000000
namespace Py
open PySem L2 PySem.Spec PyProof.Rows Evl

/-! ### min of four whole numbers -/
theorem args_four (a b c d : Value) : PySem.argsOk "min" ⟨[a, b, c, d], []⟩ := by unfold PySem.argsOk; kernel_rfl
section
variable {prog : Program} {w : World} {A : Around} {E : Value → Shared → Prop} {s : Shared}
theorem call_four {a b c d : Value} {Q : Value → Shared → Prop}
    (h : wpAny (model prog w) A.in1 (pyIter (.ref s.heap.objs.size)) (fun it s₂ => ∃ I fp wr n P St bt, it = .ref I ∧ Walks prog w A.in1 I fp wr n P St ∧ St 0 s₂.heap ∧ (∀ b ∈ fp, b < s₂.heap.objs.size) ∧ 0 < n ∧ CmpOf prog w A.in1 .Lt P bt ∧
      ∀ v h' tk, P (argBest bt (n - 1)) v → (∀ b o, b ∉ wr → s₂.heap.get? b = some o → h'.get? b = some o) → Q v { s₂ with heap := h', toks := tk }) E
      { s with heap := s.heap.push { cls := .type "tuple", data := .seq #[a, b, c, d] } }) :
    wpAny (model prog w) A (call (.builtin "min") [a, b, c, d]) Q E s := by
  have hname : (toString "min" ++ toString ".loop" : String) = "min.loop" := by decide
  refine call_function_tree F.kind_min F.plain_min F.entry_min (args_four _ _ _ _) ?_
  show wpAny _ A.in1 (Builtin.Builtins.bindParams "min" ["key", "default"] 0 ⟨[], []⟩ >>= _) _ _ s
  refine wpAny_bind (wpAny_of_eq (show Builtin.Builtins.bindParams "min" ["key", "default"] 0 ⟨[], []⟩ = pure [none, none] from rfl) ?_)
  show wpAny _ A.in1 (newTuple [a, b, c, d] >>= _) _ _ s
  refine wpAny_bind (wpAny_newObj_type (wpAny_bind (wpAny_mono h (fun it s₂ h₂ => ?_) fun _ _ e => e)))
  obtain ⟨I, fp, wr, n, P, St, bt, rfl, W, hst, hfp, hn, hcmp, hQ⟩ := h₂
  have hSf : s₂.heap.objs.size ∉ fp := fun hm => Nat.lt_irrefl _ (hfp _ hm)
  refine wpAny_bind (wpAny_newObj_type ?_)
  rw [hname]
  refine wpAny_pure ⟨plainId_quiet F.plain_min_loop _, codeAny_min_loop_first W bt hcmp s₂.heap.objs.size hSf hn (W.frame _ _ _ hst fun b _ o e => Heap.get?_push_of_some _ e) (Heap.get?_push_size _ rfl) fun v h' tk hP hk => ?_⟩
  exact hQ v h' tk hP fun b o hbw e => hk b o hbw (Nat.ne_of_lt (Heap.lt_size e)) (Heap.get?_push_of_some _ e)
def mn4 (a b c d : Int) : Int := min (min (min a b) c) d
theorem min_four {a b c d : Int} {t u x y : Tok} {Q : Value → Shared → Prop} (hh : A.handled = none)
    (h : ∀ h' tk tt, (∀ d o, s.heap.get? d = some o → h'.get? d = some o) → Q (.int (mn4 a b c d) tt) { s with heap := h', toks := tk }) :
    wpAny (model prog w) A (call (.builtin "min") [.int a t, .int b u, .int c x, .int d y]) Q E s := by
  have hT : (s.heap.push { cls := .type "tuple", data := .seq #[.int a t, .int b u, .int c x, .int d y] }).IsTuple s.heap.objs.size (intItems #[(a, t), (b, u), (c, x), (d, y)]) := ⟨_, Heap.get?_push_size _ rfl, rfl, 0, by simp [intItems]⟩
  refine call_four (wpAny_pyIter_tuple hT ?_)
  have hsz : (s.heap.push { cls := .type "tuple", data := .seq #[.int a t, .int b u, .int c x, .int d y] }).objs.size = s.heap.objs.size + 1 := Heap.size_push ..
  refine ⟨_, [_, s.heap.objs.size], [_], _, _, _, _, rfl, Walks.tuple (A := A.in1) hh _ s.heap.objs.size (by rw [hsz]; exact Nat.ne_of_lt (Nat.lt_succ_self _)) (intItems #[(a, t), (b, u), (c, x), (d, y)]),
    ⟨⟨_, Heap.get?_push_size _ rfl, rfl, rfl⟩, hT.push _⟩, fun q hq => ?_, by simp [intItems], CmpOf.ints_lt (numAt #[(a, t), (b, u), (c, x), (d, y)]) (fun _ _ => intItems_at), fun v h' tk hP hk => ?_⟩
  · show q < ((s.heap.push _).push _).objs.size
    rw [Heap.size_push, hsz]
    rcases List.mem_cons.mp hq with rfl | hq
    · rw [hsz]; exact Nat.lt_succ_self _
    · rcases List.mem_cons.mp hq with rfl | hq
      · exact Nat.lt_succ_of_lt (Nat.lt_succ_self _)
      · cases hq
  · have hold : ∀ q o, s.heap.get? q = some o → h'.get? q = some o := fun q o e => by
      refine hk q o (fun hm => ?_) (Heap.get?_push_of_some _ (Heap.get?_push_of_some _ e))
      rcases List.mem_cons.mp hm with e1 | hm
      · have := Heap.lt_size e; rw [e1, hsz] at this; exact Nat.lt_irrefl _ (Nat.lt_of_succ_lt this)
      · cases hm
    have hP' : (intItems #[(a, t), (b, u), (c, x), (d, y)])[argBest (fun i j => decide (numAt #[(a, t), (b, u), (c, x), (d, y)] i < numAt #[(a, t), (b, u), (c, x), (d, y)] j)) 3]? = some v := by
      have hsz2 : (intItems #[(a, t), (b, u), (c, x), (d, y)]).size - 1 = 3 := by simp [intItems]
      rw [← hsz2]; exact hP
    have hv : ∃ tt, v = .int (mn4 a b c d) tt := by
      have g : ∀ (i : Nat) (z : Int) (tz : Tok), argBest (fun i j => decide (numAt #[(a, t), (b, u), (c, x), (d, y)] i < numAt #[(a, t), (b, u), (c, x), (d, y)] j)) 3 = i → (intItems #[(a, t), (b, u), (c, x), (d, y)])[i]? = some (.int z tz) → mn4 a b c d = z → ∃ tt, v = .int (mn4 a b c d) tt := fun i z tz e1 e2 e3 => by
        rw [e1, e2] at hP'
        exact ⟨tz, by rw [e3]; exact (Option.some.inj hP').symm⟩
      by_cases h1 : b < a
      · by_cases h2 : c < b
        · by_cases h3 : d < c
          · exact g 3 d y (by simp [argBest, numAt, h1, h2, h3]) (by simp [intItems]) (by unfold mn4; omega)
          · exact g 2 c x (by simp [argBest, numAt, h1, h2, h3]) (by simp [intItems]) (by unfold mn4; omega)
        · by_cases h3 : d < b
          · exact g 3 d y (by simp [argBest, numAt, h1, h2, h3]) (by simp [intItems]) (by unfold mn4; omega)
          · exact g 1 b u (by simp [argBest, numAt, h1, h2, h3]) (by simp [intItems]) (by unfold mn4; omega)
      · by_cases h2 : c < a
        · by_cases h3 : d < c
          · exact g 3 d y (by simp [argBest, numAt, h1, h2, h3]) (by simp [intItems]) (by unfold mn4; omega)
          · exact g 2 c x (by simp [argBest, numAt, h1, h2, h3]) (by simp [intItems]) (by unfold mn4; omega)
        · by_cases h3 : d < a
          · exact g 3 d y (by simp [argBest, numAt, h1, h2, h3]) (by simp [intItems]) (by unfold mn4; omega)
          · exact g 0 a t (by simp [argBest, numAt, h1, h2, h3]) (by simp [intItems]) (by unfold mn4; omega)
    obtain ⟨tt, rfl⟩ := hv
    exact h h' tk tt hold
end
def B.min4 : List T → Option T
  | [.int a, .int b, .int c, .int d] => some (.int (mn4 a b c d))
  | _ => none
section
variable {cl : Cl} {X : Cx}
theorem call_min4 (hc : X.calm = true) : CallR X (.builtin "min") (fun xs H Q => ∃ i j k l, xs = [.int i, .int j, .int k, .int l] ∧ Q (.int (mn4 i j k l)) H) := by
  intro pins s σ H xs us Q I r h
  obtain ⟨i, j, k, l, rfl, q⟩ := h
  cases r with
  | cons r1 r => cases r with
    | cons r2 r => cases r with
      | cons r3 r => cases r with
        | cons r4 r =>
          cases r
          obtain ⟨t1, rfl⟩ := r1
          obtain ⟨t2, rfl⟩ := r2
          obtain ⟨t3, rfl⟩ := r3
          obtain ⟨t4, rfl⟩ := r4
          exact min_four (I.ok.hd hc) fun h' tk tt kk => ⟨.int (mn4 i j k l), H, I.kept kk, ⟨_, rfl⟩, q⟩
theorem crd_min4 (hc : X.calm = true) : CRd cl X (.builtin "min") B.min4 := ⟨_, call_min4 hc, fun A F H Q E ts vs ok e r o => by
  unfold B.min4 at o
  split at o
  · obtain ⟨v1, ws, rfl, r1, r⟩ := r
    obtain ⟨v2, ws, rfl, r2, r⟩ := r
    obtain ⟨v3, ws, rfl, r3, r⟩ := r
    obtain ⟨v4, ws, rfl, r4, r⟩ := r
    cases (show ws = [] from r)
    cases r1; cases r2; cases r3; cases r4
    exact ⟨_, _, _, _, rfl, Out.here o e rfl⟩
  · exact o.elim⟩
end

/-! ### errors' __init__ -/
section
variable {cl : Cl} {P : Program} {w : World} {K : PySem.W.Frag} {mg : Str → Option Value} {base : Heap} {x qual f1 f2 p1 p2 : Str} {params : Arguments} {body : List Stmt} {scope : Scope} {fI : Addr} {fd : FuncData} {c : Nat}
theorem xok1 {N : List Str} (F : FunD K "__init__" qual params body scope [] [] fI fd) (S : FnScope N ["self", p1] scope) (T : OexC K (cl.f c)) (iC : PySem.W.findIn K (.ref (cl.f c)) "__init__" = some (some (.ref fI))) (tI : PySem.W.typeIn K (.ref fI) = some (.type "function"))
    (n1 : PySem.W.findIn K (.ref (cl.f c)) f1 = some none) (hm : mg x = some (.ref (cl.f c))) (hN : N.length = 2)
    (hb : ∀ (kV doc pm : Value) (an : Option Addr) (cdv ct : Value) (us : List Value), us.length = 2 → bindArgs (PySem.W.fnOf "__init__" qual params body scope .none kV doc pm an cdv ct) ⟨us, []⟩ = pure ((["self", p1] : List Str).zip us))
    (h : ∀ (cdv : Value) (A : Around) (outer : List Env) (s : Shared) (H : Hp) (E : XK), PSs (XOf P w K mg base N qual scope fI cdv A outer s H E) body (tOst K f1 (tVar 0) (tVar 1))) : Xok cl P w K mg base x c [f1] := by
  refine ⟨⟨fI, fd, ["self", p1], 1, T, iC, tI, ?_, F.bindsN hb, hm, rfl⟩⟩
  refine F.ok S (fun vs H Q E h => ?_) (fun cdv A outer s H vs Q E hr hsp => ⟨_, h cdv A outer s H E, ?_⟩)
  · obtain ⟨a, ws, rfl, hl, _⟩ := h
    rw [List.length_cons, hl] <;> rfl
  · obtain ⟨a, ws, rfl, hl, ha, hQ⟩ := hsp
    match ws, hl with
    | [y], _ =>
      match N, hN with
      | [_, _], _ =>
        refine rd_ost1 rfl rfl T n1 ha fun dx hd hne => ?_
        refine hQ dx _ hd hne upd_same ?_ (fun b h1 h2 => by rw [upd_ne h1, upd_ne h2])
        rw [upd_ne hne, upd_same]
        rfl
theorem xok2 {N : List Str} (F : FunD K "__init__" qual params body scope [] [] fI fd) (S : FnScope N ["self", p1, p2] scope) (T : OexC K (cl.f c)) (iC : PySem.W.findIn K (.ref (cl.f c)) "__init__" = some (some (.ref fI))) (tI : PySem.W.typeIn K (.ref fI) = some (.type "function"))
    (n1 : PySem.W.findIn K (.ref (cl.f c)) f1 = some none) (n2 : PySem.W.findIn K (.ref (cl.f c)) f2 = some none) (hm : mg x = some (.ref (cl.f c))) (hN : N.length = 3)
    (hb : ∀ (kV doc pm : Value) (an : Option Addr) (cdv ct : Value) (us : List Value), us.length = 3 → bindArgs (PySem.W.fnOf "__init__" qual params body scope .none kV doc pm an cdv ct) ⟨us, []⟩ = pure ((["self", p1, p2] : List Str).zip us))
    (h : ∀ (cdv : Value) (A : Around) (outer : List Env) (s : Shared) (H : Hp) (E : XK), PSs (XOf P w K mg base N qual scope fI cdv A outer s H E) body (tSeq (tOst K f1 (tVar 0) (tVar 1)) (tOst K f2 (tVar 0) (tVar 2)))) : Xok cl P w K mg base x c [f1, f2] := by
  refine ⟨⟨fI, fd, ["self", p1, p2], 1, T, iC, tI, ?_, F.bindsN hb, hm, rfl⟩⟩
  refine F.ok S (fun vs H Q E h => ?_) (fun cdv A outer s H vs Q E hr hsp => ⟨_, h cdv A outer s H E, ?_⟩)
  · obtain ⟨a, ws, rfl, hl, _⟩ := h
    rw [List.length_cons, hl] <;> rfl
  · obtain ⟨a, ws, rfl, hl, ha, hQ⟩ := hsp
    match ws, hl with
    | [y, z], _ =>
      match N, hN with
      | [_, _, _], _ =>
        refine rd_ost1 rfl rfl T n1 ha fun dx hd hne => ?_
        refine rd_ost2 rfl rfl T n2 upd_same (by rw [upd_ne hne, upd_same]) (Nat.le_of_ble_eq_true rfl) ?_
        refine hQ dx _ hd hne ?_ ?_ (fun b h1 h2 => by rw [upd_ne h2, upd_ne h1, upd_ne h2])
        · rw [upd_ne (Ne.symm hne), upd_same]
        · rw [upd_same]
          rfl
end
end Py

set_option Elab.async false
set_option linter.all false
set_option maxRecDepth 100000
set_option maxHeartbeats 4000000
namespace Py
open PySem L2 PySem.Spec PyProof.Rows Evl He

/-! ### a hook with facts of one's own -/
abbrev XF := PySem.W.Frag → Bool
def obsX (fa : List Fa) (fn : List DefD) (xs : List XF) (K : PySem.W.Frag) : AlD := (((fa.all fun f => f.ok K) && fn.all fun d => d.ok K) && xs.all fun x => x K, fn.map fun d => fnW K d.at_)
def SaysX (fa : List Fa) (fn : List DefD) (xs : List XF) (K : PySem.W.Frag) : Prop := obsX fa fn xs K = valD fn
def obsXG (n : Nat) (fa : List Fa) (fn : List DefD) (xs : List XF) (g : Addr → Option Obj) : AlD := obsX fa fn xs (frG g (asD g n))
def hookX (n : Nat) (fa : List Fa) (fn : List DefD) (xs : List XF) : PySem.W.Hook where
  α := AlD
  obs := fun s => obsXG n fa fn xs s.heap.get?
  val := fun _ => valD fn
  says := fun _ h => ∃ K : PySem.W.Frag, K.In h ∧ SaysX fa fn xs K
  of := fun _ _ e => ⟨_, frG_in, e⟩
  keeps := fun _ _ _ ⟨K, hK, c⟩ k => ⟨K, PySem.W.Frag.In.keeps hK k, c⟩
theorem obsXG_eq {n : Nat} {fa : List Fa} {fn : List DefD} {xs : List XF} {g : Addr → Option Obj} {s : Shared} (h : ∀ a, g a = s.heap.get? a) : obsXG n fa fn xs g = (hookX n fa fn xs).obs s := by
  have e : g = s.heap.get? := funext h
  rw [e] <;> rfl
section
variable {fa : List Fa} {fn : List DefD} {xs : List XF} {K : PySem.W.Frag}
theorem SaysX.d (c : SaysX fa fn xs K) : SaysD fa fn K := by
  have e1 : (((fa.all fun f => f.ok K) && fn.all fun d => d.ok K) && xs.all fun x => x K) = true := congrArg (fun z : AlD => z.1) c
  have e2 : fn.map (fun d => fnW K d.at_) = fn.map DefD.val := congrArg (fun z : AlD => z.2) c
  exact Prod.ext (ba e1).1 e2
theorem SaysX.fact (c : SaysX fa fn xs K) (i : Nat) {f : Fa} (h : fa[i]? = some f := by rfl) : f.ok K = true := c.d.fact i h
theorem SaysX.def_ (c : SaysX fa fn xs K) (i : Nat) {d : DefD} (h : fn[i]? = some d := by rfl) : ∃ fd, FunD K d.name d.qual d.params d.body d.scope (d.dvs K) (d.kws K) (fAd K d.at_) fd := c.d.def_ i h
theorem SaysX.x (c : SaysX fa fn xs K) (i : Nat) {f : XF} (h : xs[i]? = some f := by rfl) : f K = true := by
  have e1 : (((fa.all fun f => f.ok K) && fn.all fun d => d.ok K) && xs.all fun x => x K) = true := congrArg (fun z : AlD => z.1) c
  exact List.all_eq_true.mp (ba e1).2 f (List.mem_of_getElem? h)
end
/-! ### the classes by numbers -/
def clOf (ns : List Str) (K : PySem.W.Frag) : Cl := ⟨fun n => ga K (ns.getD n ""), none⟩
/-- what the names of a module's error classes say -/
def excB (x : Str) (K : PySem.W.Frag) : Bool := oexB K (ga K x) && (isB K (ga K x) && xfB K (ga K x))
def iniB (x : Str) (K : PySem.W.Frag) : Bool := eqO (PySem.W.findIn K (.ref (ga K x)) "__init__") (some (some (.ref (ma K (ga K x) "__init__")))) && decide (PySem.W.typeIn K (.ref (ma K (ga K x) "__init__")) = some (.type "function"))
theorem excB_ok {x : Str} {K : PySem.W.Frag} (h : excB x K = true) : OexC K (ga K x) ∧ IsC K (ga K x) ∧ XfC K (ga K x) := by
  obtain ⟨h1, h⟩ := ba h
  obtain ⟨h2, h3⟩ := ba h
  exact ⟨oexB_ok h1, isB_ok h2, xfB_ok h3⟩
theorem iniB_ok {x : Str} {K : PySem.W.Frag} (h : iniB x K = true) : PySem.W.findIn K (.ref (ga K x)) "__init__" = some (some (.ref (fAd K (x, some "__init__")))) ∧ PySem.W.typeIn K (.ref (fAd K (x, some "__init__"))) = some (.type "function") := by
  obtain ⟨h1, h2⟩ := ba h
  exact ⟨eqO_ok h1, of_decide_eq_true h2⟩
/-- the class y (or the built-in type y) in an except clause, asked of each class of the list: tab tells the answers -/
def clsV (own : Bool) (y : Str) (K : PySem.W.Frag) : Value := if own then .ref (ga K y) else .type y.toString
def exmB (ns : List Str) (tab : List (Nat × Bool)) (v : PySem.W.Frag → Value) (K : PySem.W.Frag) : Bool := tab.all fun p => decide (PySem.W.exmOne K (.ref (ga K (ns.getD p.1 ""))) (v K) = some p.2)
def kitsB (ns : List Str) (tab : List (Nat × Bool)) (v : PySem.W.Frag → Value) (K : PySem.W.Frag) : Bool := tab.all fun p => isB K (ga K (ns.getD p.1 "")) && decide (PySem.W.kitOne K (.ref (ga K (ns.getD p.1 ""))) (v K) = some p.2)
def kitaB (ns : List Str) (tab : List (Nat × Bool)) (v : PySem.W.Frag → List Value) (K : PySem.W.Frag) : Bool := tab.all fun p => isB K (ga K (ns.getD p.1 "")) && decide (PySem.W.kitAny K (.ref (ga K (ns.getD p.1 ""))) (v K) = some p.2)
theorem mem_lookup {tab : List (Nat × Bool)} {n : Nat} {b : Bool} (h : tab.lookup n = some b) : (n, b) ∈ tab := by
  induction tab with
  | nil => cases h
  | cons p t ih =>
    obtain ⟨m, c⟩ := p
    rw [List.lookup_cons] at h
    cases q : (n == m) with
    | true =>
      rw [q] at h
      cases h
      rw [eq_of_beq q]
      exact List.mem_cons_self
    | false =>
      rw [q] at h
      exact List.mem_cons_of_mem _ (ih h)
theorem exmB_ok {ns : List Str} {tab : List (Nat × Bool)} {v : PySem.W.Frag → Value} {K : PySem.W.Frag} (h : exmB ns tab v K = true) : ∀ n b, tab.lookup n = some b → PySem.W.exmOne K (.ref ((clOf ns K).f n)) (v K) = some b := fun n b e =>
  of_decide_eq_true (List.all_eq_true.mp h _ (mem_lookup e))
theorem kitsB_ok {ns : List Str} {tab : List (Nat × Bool)} {v : PySem.W.Frag → Value} {K : PySem.W.Frag} (h : kitsB ns tab v K = true) : ∀ n b, tab.lookup n = some b → IsC K ((clOf ns K).f n) ∧ PySem.W.kitOne K (.ref ((clOf ns K).f n)) (v K) = some b := fun n b e => by
  obtain ⟨h1, h2⟩ := ba (List.all_eq_true.mp h _ (mem_lookup e))
  exact ⟨isB_ok h1, of_decide_eq_true h2⟩
theorem kitaB_ok {ns : List Str} {tab : List (Nat × Bool)} {v : PySem.W.Frag → List Value} {K : PySem.W.Frag} (h : kitaB ns tab v K = true) : ∀ n b, tab.lookup n = some b → IsC K ((clOf ns K).f n) ∧ PySem.W.kitAny K (.ref ((clOf ns K).f n)) (v K) = some b := fun n b e => by
  obtain ⟨h1, h2⟩ := ba (List.all_eq_true.mp h _ (mem_lookup e))
  exact ⟨isB_ok h1, of_decide_eq_true h2⟩
/-- a method's text -/
def mth (st : Stmt) (j : Nat) : Stmt := match st with
  | .ClassDef _ _ _ b _ _ _ _ _ _ _ => b.getD j (.Pass ⟨0, 0, 0, 0⟩)
  | _ => .Pass ⟨0, 0, 0, 0⟩
/-! ### the end -/
theorem reps_ints {G : Ge} {A : Al} {F : Hp} : ∀ ns : List Int, reps G A F (ns.map T.int) (ns.map V.int)
  | [] => rfl
  | n :: ns => ⟨.int n, ns.map V.int, rfl, rfl, reps_ints ns⟩
/-- what the law's def says of a script -/
theorem law_end {G : Ge} {f : Nat → List T → Res T} {H : Hp} {a : Addr} {ns : List Int} (hf : f 1 [.ro (ns.map T.int)] = .ok (.bl true)) (hS : SqL G.K H a (ns.map V.int)) : spT G 1 f [.ref a] H (fun v _ => v = .bl true) (fun _ _ _ => False) := by
  refine ⟨rfl, 1, fun _ => none, H, [.ro (ns.map T.int)], ⟨fun _ _ _ z _ => (nomatch z), fun _ _ z => (nomatch z)⟩, fun _ _ z => (nomatch z), Ex.refl _, ⟨_, [], rfl, ⟨a, _, rfl, hS, reps_ints ns⟩, rfl⟩, ?_⟩
  rw [hf]
  exact fun b F1 H1 _ r => r
/-- a law's end; what it may let out hangs on the world -/
theorem walk_end {l : PySem.W.OpenLaw} {n k : Nat} {q : Program} {loose : List Str} {XP : (Str → Option Value) → Heap → Prop} {YP : World → Heap → Prop} {d : DefRec} {x : Str}
    (hn : l.most = some n) (hn2 : n ≤ sizeLine) (hdf : d.params.defaults = []) (hr : Room k callerA)
    (F : ∀ (w : World) (mg : Str → Option Value) (fa : Addr) (h : Heap), YP w h → h.Ns mainGlobals mg → mg d.name = some (.ref fa) →
      ∃ (K : PySem.W.Frag) (fd : FuncData) (sp : Sp), K.In h ∧ (∀ (s : Shared) (u : Value), BindsTo s fd ⟨[u], []⟩ [(x, u)]) ∧
        (∀ (H : Hp) (a : Addr) (ns : List Int), ns.length ≤ n → (∀ k ∈ ns, Builtin.Int.intBits k ≤ 1048576) → Only H → SqL K H a (ns.map V.int) → sp [.ref a] H (fun v _ => v = .bl true) fun _ _ _ => False) ∧
        ∀ base : Heap, K.In base → base.Ns mainGlobals mg → FnOk l.prog w K mg base (L2.CX l.prog w) k fa fd [x] sp) :
    PySem.W.WalkO q loose XP YP l.row.toRowW d [] (fun f vs => PySem.call f vs) := by
  refine Att.attach_callB hn hdf fun w s₀ s₁ mg mb fa o pm cd doc a vs ns G Y ho hd hcd hmg hobj hints hlen hbits hg => ?_
  obtain ⟨K, fd, sp, KX, hb, hsp, hF⟩ := F w mg fa _ Y G.T.g hmg
  exact law_call KX G.T.g G.T.b G.T.builtins G.T.nolimit hg hobj hints (Nat.le_trans hlen hn2) hr hF hb (fun H hO hS => hsp H a ns hlen hbits hO hS) fun H e s' z => by
    obtain ⟨_, _, _, _, _, _, _, _, _, _, _, _, z⟩ := z
    exact z
end Py

set_option Elab.async false
set_option linter.all false
set_option maxRecDepth 100000
set_option maxHeartbeats 4000000
namespace Py
open PySem L2 PySem.Spec PyProof.Rows Evl

/-! ### more rules of targets, chains, unpacking -/
section
variable {cl : Cl} {X : Cx} {d : Nat} {W : WX} {e e1 e2 e3 : Expr} {es : List Expr} {p q r : P.Ex1} {a : P.Ax} {pos p1 : Pos} {f g : T → T → Option T} {tg : T → Fv → Option Fv} {tgs : List (T → Fv → Option Fv)} {own : List Nat}
theorem dgs_cons (h1 : DG cl X d e tg) (h2 : DGs cl X d es tgs) (hs : (assignEach (e :: es) X.env).map (·.2) = assign e X.env :: (assignEach es X.env).map (·.2) := by rfl) : DGs cl X d (e :: es) (tg :: tgs) := by
  obtain ⟨t, a1, a2⟩ := h1
  obtain ⟨u, b1, b2⟩ := h2
  exact ⟨_, pgs_cons a1 b1 hs, sgs_cons a2 b2⟩
theorem dg_tup {k : Nat} (hc : X.calm = true) (h : DGs cl X d es tgs) (hn : (assignEach es X.env).length = tgs.length := by rfl) (hst : (assignEach es X.env).findIdx? (·.1) = none := by rfl) : DG cl X d (.Tuple es k pos) (S.tTup tgs) := by
  obtain ⟨t, a1, a2⟩ := h
  exact ⟨_, pg_tup hc a1 hn hst, sg_tup a2 rfl⟩
theorem dcs_cons (h1 : DC cl X d own e tg) (h2 : DCs cl X d own es tgs) (hs : (assignEach (e :: es) X.env).map (·.2) = assign e X.env :: (assignEach es X.env).map (·.2) := by rfl) : DCs cl X d own (e :: es) (tg :: tgs) := by
  obtain ⟨t, a1, a2⟩ := h1
  obtain ⟨u, b1, b2⟩ := h2
  exact ⟨_, pgs_cons a1 b1 hs, scs_cons a2 b2⟩
theorem dc_tup {k : Nat} (hc : X.calm = true) (h : DCs cl X d own es tgs) (hn : (assignEach es X.env).length = tgs.length := by rfl) (hst : (assignEach es X.env).findIdx? (·.1) = none := by rfl) : DC cl X d own (.Tuple es k pos) (S.tTup tgs) := by
  obtain ⟨t, a1, a2⟩ := h
  exact ⟨_, pg_tup hc a1 hn hst, sc_tup a2 rfl⟩
theorem ds_unp {tge : Expr} (h : DE cl X d W e p) (hg : DG cl X d tge tg) (hs : swapsWithSole [tge] e pos.line X.env = pure false := by rfl) (hw : swappedStores [tge] e X.env = pure none := by rfl)
    (h1 : (assignEach [tge] X.env).map (·.2) = [assign tge X.env] := by rfl) : DS cl X d W (.Assign [tge] e pos) (S.unp tg p) := by
  obtain ⟨t, a1, a2⟩ := h
  obtain ⟨u, b1, b2⟩ := hg
  exact ⟨_, ps_asg a1 b1 hs hw h1, ss_unp a2 b2⟩
theorem dt_chain {op op' : CmpOp} (ho : OpD X cl (compareOp op) f) (ho' : OpD X cl (compareOp op') g) (h1 : DE cl X d W e1 p) (h2 : DE cl X d W e2 q) (h3 : DE cl X d W e3 r) (hm : lastMarks [op, op'] [e2, e3] = false := by rfl) : DT cl X d W (.Compare e1 [op, op'] [e2, e3] pos) (P.tb (P.chain f g p q r)) := by
  obtain ⟨r1, x1, x2⟩ := ho
  obtain ⟨r2, y1, y2⟩ := ho'
  obtain ⟨t0, a1, a2⟩ := h1
  obtain ⟨t1, b1, b2⟩ := h2
  obtain ⟨t2, c1, c2⟩ := h3
  exact ⟨_, pt_chain x1 y1 a1 b1 c1 hm, st_test (se_chain x2 y2 a2 b2 c2)⟩
end

theorem if_someA {α : Type} {c : Prop} [Decidable c] {x y : α} (h : (if c then some x else none) = some y) : c ∧ x = y := by
  by_cases k : c
  · rw [if_pos k] at h; exact ⟨k, Option.some.inj h⟩
  · rw [if_neg k] at h; cases h
/-! ### new lists: a + b, a * n, list(x) -/
def OpN (G : Ge) (r : R2) (f : T → T → Option (List T)) : Prop := ∀ A F H (Q : VK) x y v w ts, AOk A F → Ex F H → rep G A F x v → rep G A F y w → f x y = some ts → (∀ p vs, reps G A F ts vs → H p = none → Q (.ref p) (upd H p (.lst vs))) → r v w H Q
abbrev SnR (G : Ge) (A : Al) : Hp → List T → Addr × List V → Prop := fun F1 ts b => reps G A F1 ts b.2 ∧ F1 b.1 = none
abbrev SnQ (H : Hp) (Q : VK) : Addr × List V → Hp → Prop := fun b H1 => H b.1 = none → H1 b.1 = some (.lst b.2) → Q (.ref b.1) H1
def P.binN (f : T → T → Option (List T)) (p q : P.Ex1) : Fv → Res (List T) := fun env => (p env).bind fun x => (q env).bind fun y => .of (f x y)
section
variable {G : Ge} {cl : Cl} {X : Cx} {d : Nat} {W : WX} {e e1 e2 : Expr} {p q : P.Ex1} {pos p1 : Pos} {f : T → T → Option (List T)} {ta tb : TE} {r1 : R2}
theorem sn_op (hr : OpN G r1 f) (ha : SE G d W ta p) (hb : SE G d W tb q) : SN G d W (tOp r1 ta tb) (P.binN f p q) := fun A env σ F H Q R e o => by
  have o0 : Outg G A F H (SnR G A) (SnQ H Q) (WE W σ) ((p env).bind fun x => (q env).bind fun y => .of (f x y)) := o
  refine ha A env σ F H _ R e (Outg.bind o0 fun x v F1 H1 g1 rx o1 => hb A env σ F1 H1 _ (R.mono g1.ex) g1.sub (Outg.bind o1 fun y w F2 H2 g2 ry o2 => ?_))
  cases z : f x y with
  | none => rw [z] at o2; exact o2.elim
  | some ts =>
    rw [z] at o2
    refine hr A F2 H2 Q x y v w ts ((R.ok.mono g1.ex).mono g2.ex) g2.sub (rx.mono g2.ex) ry z fun pa vs rs hp => ?_
    exact o2 (pa, vs) F2 (upd H2 pa (.lst vs)) (Grow.junk g2.sub hp) ⟨rs, none_of_ex g2.sub hp⟩ (none_of_ex (g1.keep.trans g2.keep) hp) upd_same
def T.catN : T → T → Option (List T)
  | .lst _ xs, .lst _ ys => if lfit (xs.length + ys.length) = true then some (xs ++ ys) else none
  | _, _ => none
def T.repN : T → T → Option (List T)
  | .lst _ xs, .int k => if decide (-(2 ^ 63) ≤ k) && decide (k < 2 ^ 63) && lfit (xs.length * k.toNat) then some (List.replicate k.toNat xs).flatten else none
  | _, _ => none
theorem opn_cat : OpN G rCat T.catN := fun A F H Q x y v w ts ok e rx ry z k => by
  cases x <;> cases y <;> (try cases z)
  rename_i g1 xs g2 ys
  obtain ⟨a, vs, rfl, h1, h2, h3⟩ := rx
  obtain ⟨b, ws, rfl, k1, k2, k3⟩ := ry
  have z' : (if lfit (xs.length + ys.length) = true then some (xs ++ ys) else none) = some ts := z
  obtain ⟨c, rfl⟩ := if_someA z'
  exact ⟨a, b, vs, ws, rfl, rfl, e _ _ h1, e _ _ k1, (by rw [h3.length, k3.length]; exact of_decide_eq_true c), fun p hp => k p _ (h3.append k3) hp⟩
theorem opn_rep : OpN G rRep T.repN := fun A F H Q x y v w ts ok e rx ry z k => by
  cases x <;> cases y <;> (try cases z)
  rename_i g1 xs n
  obtain ⟨a, vs, rfl, h1, h2, h3⟩ := rx
  cases ry
  have z' : (if decide (-(2 ^ 63) ≤ n) && decide (n < 2 ^ 63) && lfit (xs.length * n.toNat) then some (List.replicate n.toNat xs).flatten else none) = some ts := z
  obtain ⟨c, rfl⟩ := if_someA z'
  obtain ⟨c, c3⟩ := band c
  obtain ⟨c1, c2⟩ := band c
  exact ⟨a, n, vs, rfl, rfl, e _ _ h1, of_decide_eq_true c1, of_decide_eq_true c2, (by rw [h3.length]; exact of_decide_eq_true c3), fun p hp => k p _ (h3.flat _) hp⟩
theorem dn_cat (h1 : DE cl X d W e1 p) (h2 : DE cl X d W e2 q) : DN cl X d W (.BinOp e1 .Add e2 pos) (P.binN T.catN p q) := by
  obtain ⟨t1, b1, b2⟩ := h1
  obtain ⟨t2, c1, c2⟩ := h2
  exact ⟨_, pe_op op_cat b1 c1, sn_op opn_cat b2 c2⟩
theorem dn_rep (h1 : DE cl X d W e1 p) (h2 : DE cl X d W e2 q) : DN cl X d W (.BinOp e1 .Mult e2 pos) (P.binN T.repN p q) := by
  obtain ⟨t1, b1, b2⟩ := h1
  obtain ⟨t2, c1, c2⟩ := h2
  exact ⟨_, pe_op op_rep b1 c1, sn_op opn_rep b2 c2⟩
theorem dn_list (hm : X.mg "list" = none) (h : DE cl X d W e p) (hg : Gl X "list" := by rfl) (he : starEach [e] X.env = (false, eval e X.env) :: starEach [] X.env := by rfl) (hpl : (backTo pos (starEach [] X.env)).any (·.1) = false := by rfl) : DN cl X d W (.Call (.Name "list" p1) [e] [] pos) (P.items p) := by
  obtain ⟨t1, b1, b2⟩ := h
  refine ⟨_, pe_callTy call_list_of hg hm (by decide +kernel) (pa_cons b1 pa_nil he) (by decide) (by decide) he hpl, fun A env σ F H Q R e o => ?_⟩
  have o1 : Outg ⟨X.K, cl⟩ A F H (SnR ⟨X.K, cl⟩ A) (SnQ H Q) (WE W σ) ((p env).bind fun t => .of t.items) := o
  refine b2 A env σ F H _ R e (Outg.bind o1 fun x v F1 H1 g1 rx o2 => ?_)
  cases z : x.items with
  | none => rw [z] at o2; exact o2.elim
  | some us =>
    rw [z] at o2
    obtain ⟨a, ws, rfl, s, r2⟩ := items_of rx z
    exact ⟨a, ws, rfl, sq_mono g1.sub s, fun pa hp => o2 (pa, ws) F1 (upd H1 pa (.lst ws)) (Grow.junk g1.sub hp) ⟨r2, none_of_ex g1.sub hp⟩ (none_of_ex g1.keep hp) upd_same⟩
end
end Py

set_option Elab.async false
set_option linter.all false
set_option maxRecDepth 100000
set_option maxHeartbeats 4000000
namespace Py
open PySem L2 PySem.Spec PyProof.Rows Evl

/-! ### is True, is False -/
def T.isS (neg : Bool) (x y : T) : Option T := match y with
  | .bl b => (match x with
    | .bl a => some (.bl (decide (a = b) != neg))
    | .ins _ _ _ _ => none
    | .exn _ _ _ => none
    | _ => some (.bl neg))
  | _ => none
def T.isA (x y : T) : Option T := (T.isN x y).or (T.isS false x y)
def T.notA (x y : T) : Option T := (T.notN x y).or (T.isS true x y)
/-- a value that is not a bool, told by its V -/
def nbV : V → Prop
  | .bl _ => False
  | _ => True
def rIsS (neg : Bool) : R2 := fun x y H Q => ∃ b : Bool, y = .bl b ∧ ((∃ a : Bool, x = .bl a ∧ Q (.bl (decide (a = b) != neg)) H) ∨ (nbV x ∧ Q (.bl neg) H))
theorem plain_bool {x : V} {v : Value} (rx : RelV x v) (b : Bool) : plainIs v (.bool b) = true := by
  cases x <;> first
    | (cases rx; rfl)
    | (obtain ⟨t, rfl⟩ := rx; rfl)
section
variable {cl : Cl} {X : Cx}
theorem op_isS : OpR X (compareOp .Is) (rIsS false) := by
  intro pins s σ H x y v u Q I rx ry h
  obtain ⟨b, rfl, h⟩ := h
  cases (show u = Value.bool b from ry)
  rcases h with ⟨a, rfl, q⟩ | ⟨nb, q⟩
  · cases (show v = Value.bool a from rx)
    by_cases e : a = b
    · subst e
      exact wpAny_is_self rfl ⟨.bl true, H, I, rfl, by simpa using q⟩
    · exact wpAny_is_other rfl (fun z => e (Value.bool.inj z)) ⟨.bl false, H, I, rfl, by simpa [e] using q⟩
  · refine wpAny_is_other (plain_bool rx b) (fun z => ?_) ⟨.bl false, H, I, rfl, q⟩
    subst z
    cases x with
    | bl a => exact nb
    | non => cases rx
    | ref a => cases rx
    | ty a => cases rx
    | int a => obtain ⟨t, z⟩ := rx; cases z
    | str a => obtain ⟨t, z⟩ := rx; cases z
    | byt a => obtain ⟨t, z⟩ := rx; cases z
    | flt a => obtain ⟨t, z⟩ := rx; cases z
theorem op_notS : OpR X (compareOp .IsNot) (rIsS true) := by
  intro pins s σ H x y v u Q I rx ry h
  obtain ⟨b, rfl, h⟩ := h
  cases (show u = Value.bool b from ry)
  rcases h with ⟨a, rfl, q⟩ | ⟨nb, q⟩
  · cases (show v = Value.bool a from rx)
    by_cases e : a = b
    · subst e
      exact wpAny_isNot_self rfl ⟨.bl false, H, I, rfl, by simpa using q⟩
    · exact wpAny_isNot_other rfl (fun z => e (Value.bool.inj z)) ⟨.bl true, H, I, rfl, by simpa [e] using q⟩
  · refine wpAny_isNot_other (plain_bool rx b) (fun z => ?_) ⟨.bl true, H, I, rfl, q⟩
    subst z
    cases x with
    | bl a => exact nb
    | non => cases rx
    | ref a => cases rx
    | ty a => cases rx
    | int a => obtain ⟨t, z⟩ := rx; cases z
    | str a => obtain ⟨t, z⟩ := rx; cases z
    | byt a => obtain ⟨t, z⟩ := rx; cases z
    | flt a => obtain ⟨t, z⟩ := rx; cases z
theorem isS_sound {neg : Bool} : OpS ⟨X.K, cl⟩ (rIsS neg) (T.isS neg) := fun A F H Q E x y v w ok e rx ry o => by
  cases y <;> (try exact o.elim)
  cases ry
  refine ⟨_, rfl, ?_⟩
  cases x with
  | bl a => cases rx; exact .inl ⟨_, rfl, Out.here o e rfl⟩
  | non => cases rx; exact .inr ⟨trivial, Out.here o e rfl⟩
  | int i => cases rx; exact .inr ⟨trivial, Out.here o e rfl⟩
  | str i => cases rx; exact .inr ⟨trivial, Out.here o e rfl⟩
  | lst g ts => obtain ⟨a, vs, rfl, _⟩ := rx; exact .inr ⟨trivial, Out.here o e rfl⟩
  | tup ts => obtain ⟨a, vs, rfl, _⟩ := rx; exact .inr ⟨trivial, Out.here o e rfl⟩
  | ro ts => obtain ⟨a, vs, rfl, _⟩ := rx; exact .inr ⟨trivial, Out.here o e rfl⟩
  | ins _ _ _ _ => exact o.elim
  | exn _ _ _ => exact o.elim
theorem opD_isA : OpD X cl (compareOp .Is) T.isA := opD_isN.or ⟨_, op_isS, isS_sound⟩ fun _ _ => rfl
theorem opD_notA : OpD X cl (compareOp .IsNot) T.notA := opD_notN.or ⟨_, op_notS, isS_sound⟩ fun _ _ => rfl
end
end Py

set_option Elab.async false
set_option linter.all false
set_option maxRecDepth 100000
set_option maxHeartbeats 4000000
namespace Py
open PySem L2 PySem.Spec PyProof.Rows Evl

/-! ### pop, reverse, clear of a list of one's own -/
namespace S
/-- y = xs.pop(k) -/
def popAsg (i j : Nat) (k : P.Ex1) : Sx := fun env => match env[i]? with
  | some (some (.ol ts)) => (k env).thenX env fun z => (match z with
    | .int z => (match ixN ts.length z with
      | some m => (match ts[m]? with
        | some y => if lfit ts.length = true ∧ j < env.length ∧ i ≠ j then .nx ((env.set i (some (.ol (ts.eraseIdx m)))).set j (some (.fz y))) else .stuck
        | none => .stuck)
      | none => .stuck)
    | _ => .stuck)
  | _ => .stuck
/-- ys.append(xs.pop(k)) -/
def popApp (i j : Nat) (k : P.Ex1) : Sx := fun env => match env[j]? with
  | some (some (.ol us)) => (match env[i]? with
    | some (some (.ol ts)) => (k env).thenX env fun z => (match z with
      | .int z => (match ixN ts.length z with
        | some m => (match ts[m]? with
          | some y => if lfit ts.length = true ∧ us.length < sizeLine ∧ i ≠ j then .nx ((env.set i (some (.ol (ts.eraseIdx m)))).set j (some (.ol (us ++ [y])))) else .stuck
          | none => .stuck)
        | none => .stuck)
      | _ => .stuck)
    | _ => .stuck)
  | _ => .stuck
/-- y = xs.pop() -/
def popLast (i j : Nat) : Sx := fun env => match env[i]? with
  | some (some (.ol ts)) => (match ts[ts.length - 1]? with
    | some y => if j < env.length ∧ i ≠ j then .nx ((env.set i (some (.ol ts.dropLast))).set j (some (.fz y))) else .stuck
    | none => .stuck)
  | _ => .stuck
def rev (i : Nat) : Sx := fun env => match env[i]? with
  | some (some (.ol ts)) => .nx (env.set i (some (.ol ts.reverse)))
  | _ => .stuck
def clear (i : Nat) : Sx := fun env => match env[i]? with
  | some (some (.ol ts)) => .nx (env.set i (some (.ol [])))
  | _ => .stuck
end S
theorem reps.erase {G : Ge} {A : Al} {F : Hp} : ∀ {ts : List T} {vs : List V} (m : Nat), reps G A F ts vs → reps G A F (ts.eraseIdx m) (vs.eraseIdx m)
  | [], _, _, h => by rw [show _ = [] from h]; rfl
  | _ :: _, _, 0, ⟨v, ws, h1, h2, h3⟩ => by rw [h1]; exact h3
  | _ :: _, _, m + 1, ⟨v, ws, h1, h2, h3⟩ => by rw [h1]; exact ⟨v, _, rfl, h2, reps.erase m h3⟩
theorem reps.dropLast {G : Ge} {A : Al} {F : Hp} {ts : List T} {vs : List V} (h : reps G A F ts vs) : reps G A F ts.dropLast vs.dropLast := by
  rw [List.dropLast_eq_take, List.dropLast_eq_take, h.length]
  exact h.take _
section
variable {G : Ge} {d i j : Nat} {W : WX} {te tk : TE} {k : P.Ex1}
theorem ixN_rg {n m : Nat} {z : Int} (h : ixN n z = some m) (hn : lfit n = true) : -(2 ^ 63) ≤ z ∧ z < 2 ^ 63 := by
  have h1 := (ixN_seq h).2.2
  have h2 : n ≤ sizeLine := of_decide_eq_true hn
  have h3 : sizeLine = 16777216 := rfl
  omega
theorem ss_popAsg (hk : SE G d W tk k) : SS G d W (tAsg (tBM G.K "list" rPopAt (tVar i) (tCons tk tNil)) (gName j)) (S.popAsg i j k) := fun A0 F0 H0 A env σ F H D R o => by
  unfold S.popAsg at o
  split at o
  · rename_i ts e
    obtain ⟨pa, vs, h1, h2, h3, h4⟩ := R.ol i ts e
    refine ⟨_, h1, Or.inl ⟨rfl, vs, SqL.of h3⟩, R.runX hk o fun r v F1 H1 R1 r1 o1 => ?_⟩
    cases r <;> (try exact o1.elim)
    rename_i z
    have hv : v = .int z := r1 rfl
    subst hv
    obtain ⟨pb, vs1, k1, k2, k3, k4⟩ := R1.ol i ts e
    rw [h1] at k1
    cases k1
    have o2 : OutS G d A0 F0 H0 W D (match ixN ts.length z with
      | some m => (match ts[m]? with
        | some y => if lfit ts.length = true ∧ j < env.length ∧ i ≠ j then .nx ((env.set i (some (.ol (ts.eraseIdx m)))).set j (some (.fz y))) else .stuck
        | none => .stuck)
      | none => .stuck) := o1
    cases hm : ixN ts.length z with
    | none => rw [hm] at o2; exact o2.elim
    | some m =>
      simp only [hm] at o2
      cases hy : ts[m]? with
      | none => rw [hy] at o2; exact o2.elim
      | some y =>
        simp only [hy] at o2
        obtain ⟨⟨c1, c2, c3⟩, o3⟩ := OutS.of_if o2
        obtain ⟨b1, b2⟩ := ixN_rg hm c1
        obtain ⟨v, hv, rv⟩ := k4.get hy
        refine ⟨_, vs1, z, m, v, rfl, rfl, k3, b1, b2, by rw [k4.length]; exact (ixN_seq hm).1, hv, ?_⟩
        have R2 := R1.wr e h1 k2 (k4.erase m)
        obtain ⟨A', R3⟩ := R2.set (i := j) rv (by rw [List.length_set]; exact c2)
        exact o3 A' _ _ _ R3
  · exact o.elim
theorem ss_popLast : SS G d W (tAsg (tBM0 G.K "list" rPop (tVar i)) (gName j)) (S.popLast i j) := fun A0 F0 H0 A env σ F H D R o => by
  unfold S.popLast at o
  split at o
  · rename_i ts e
    obtain ⟨pa, vs, h1, h2, h3, h4⟩ := R.ol i ts e
    refine ⟨_, h1, Or.inl ⟨rfl, vs, SqL.of h3⟩, ?_⟩
    cases hy : ts[ts.length - 1]? with
    | none => rw [hy] at o; exact o.elim
    | some y =>
      simp only [hy] at o
      obtain ⟨⟨c1, c2⟩, o3⟩ := OutS.of_if o
      obtain ⟨v, hv, rv⟩ := h4.get hy
      refine ⟨_, vs, v, rfl, rfl, h3, by rw [h4.length]; exact hv, ?_⟩
      have R2 := R.wr e h1 h2 h4.dropLast
      obtain ⟨A', R3⟩ := R2.set (i := j) rv (by rw [List.length_set]; exact c1)
      exact o3 A' _ _ _ R3
  · exact o.elim
theorem ss_popApp (hk : SE G d W tk k) : SS G d W (tDrop (tBM G.K "list" rAppend (tVar j) (tCons (tBM G.K "list" rPopAt (tVar i) (tCons tk tNil)) tNil))) (S.popApp i j k) := fun A0 F0 H0 A env σ F H D R o => by
  unfold S.popApp at o
  split at o
  · rename_i us ej
    split at o
    · rename_i ts e
      obtain ⟨pj, ws, g1, g2, g3, g4⟩ := R.ol j us ej
      obtain ⟨pa, vs, h1, h2, h3, h4⟩ := R.ol i ts e
      refine ⟨_, g1, Or.inl ⟨rfl, ws, SqL.of g3⟩, _, h1, Or.inl ⟨rfl, vs, SqL.of h3⟩, R.runX hk o fun r v F1 H1 R1 r1 o1 => ?_⟩
      cases r <;> (try exact o1.elim)
      rename_i z
      have hv : v = .int z := r1 rfl
      subst hv
      obtain ⟨pb, vs1, k1, k2, k3, k4⟩ := R1.ol i ts e
      rw [h1] at k1
      cases k1
      have o2 : OutS G d A0 F0 H0 W D (match ixN ts.length z with
        | some m => (match ts[m]? with
          | some y => if lfit ts.length = true ∧ us.length < sizeLine ∧ i ≠ j then .nx ((env.set i (some (.ol (ts.eraseIdx m)))).set j (some (.ol (us ++ [y])))) else .stuck
          | none => .stuck)
        | none => .stuck) := o1
      cases hm : ixN ts.length z with
      | none => rw [hm] at o2; exact o2.elim
      | some m =>
        simp only [hm] at o2
        cases hy : ts[m]? with
        | none => rw [hy] at o2; exact o2.elim
        | some y =>
          simp only [hy] at o2
          obtain ⟨⟨c1, c2, c3⟩, o3⟩ := OutS.of_if o2
          obtain ⟨b1, b2⟩ := ixN_rg hm c1
          obtain ⟨v, hv, rv⟩ := k4.get hy
          refine ⟨_, vs1, z, m, v, rfl, rfl, k3, b1, b2, by rw [k4.length]; exact (ixN_seq hm).1, hv, ?_⟩
          have R2 := R1.wr e h1 k2 (k4.erase m)
          have ej' : (env.set i (some (.ol (ts.eraseIdx m))))[j]? = some (some (.ol us)) := by
            rw [List.getElem?_set_ne c3]
            exact ej
          obtain ⟨pk, ws1, l1, l2, l3, l4⟩ := R2.ol j us ej'
          rw [g1] at l1
          cases l1
          refine ⟨_, ws1, v, rfl, rfl, l3, by rw [l4.length]; exact c2, ?_⟩
          exact o3 _ _ _ _ (R2.wr ej' g1 l2 (l4.append (reps.one rv)))
    · exact o.elim
  · exact o.elim
theorem ss_rev : SS G d W (tDrop (tBM0 G.K "list" rReverse (tVar i))) (S.rev i) := fun A0 F0 H0 A env σ F H D R o => by
  unfold S.rev at o
  split at o
  · rename_i ts e
    obtain ⟨pa, vs, h1, h2, h3, h4⟩ := R.ol i ts e
    exact ⟨_, h1, Or.inl ⟨rfl, vs, SqL.of h3⟩, _, vs, rfl, rfl, h3, o _ _ _ _ (R.wr e h1 h2 h4.reverse)⟩
  · exact o.elim
theorem ss_clear : SS G d W (tDrop (tBM0 G.K "list" rClear (tVar i))) (S.clear i) := fun A0 F0 H0 A env σ F H D R o => by
  unfold S.clear at o
  split at o
  · rename_i ts e
    obtain ⟨pa, vs, h1, h2, h3, h4⟩ := R.ol i ts e
    exact ⟨_, h1, Or.inl ⟨rfl, vs, SqL.of h3⟩, _, vs, rfl, rfl, h3, o _ _ _ _ (R.wr e h1 h2 (us := []) (ws := []) rfl)⟩
  · exact o.elim
end
section
variable {cl : Cl} {X : Cx} {d i j : Nat} {W : WX} {e : Expr} {p : P.Ex1} {pos p1 p' p2 : Pos} {x y : Str} {apos apos2 : Pos}
theorem ds_popAsg (hk : DE cl X d W e p) (hNd : X.N.Nodup) (hN : X.N[i]? = some x := by rfl) (hv : Vis X.env.scope x := by first | exact Or.inl rfl | exact Or.inr (Or.inl rfl) | exact Or.inr (Or.inr rfl)) (hd : (x == ("__debug__" : Str)) = false := by decide) (hcd : (x == ("__classdict__" : Str)) = false := by decide)
    (hy : X.N[j]? = some y := by rfl) (hyl : Loc X.env.scope y := by first | exact Or.inl rfl | exact Or.inr rfl) (hf : X.fn y = true ∨ X.env.scope.names.lookup y = some .local := by first | exact .inl rfl | exact .inr rfl)
    (hbase : attributeBase (.Name x p') "pop" X.env (eval (.Name x p') X.env) = eval (.Name x p') X.env := by rfl)
    (hfew : ((backTo p1 (starEach [e] X.env)).all (fun x => !x.1) && (backToKw p1 (keywordEach [] X.env)).all (fun x => x.1.isSome) && decide ([e].length + ([] : List Keyword).length + (if ([] : List Keyword).isEmpty then 0 else 1) < 30)) = true := by rfl)
    (hline : (apos.endLine == p1.line) = true := by rfl) (hs : starEach [e] X.env = (false, eval e X.env) :: starEach [] X.env := by rfl) (hplain : (backTo p1 (starEach [] X.env)).any (·.1) = false := by rfl)
    (hsw : swapsWith (.Call (.Attribute (.Name x p') "pop" apos) [e] [] p1) (some (.Name y p2)) pos.line X.env = pure false := by rfl) : DS cl X d W (.Assign [.Name y p2] (.Call (.Attribute (.Name x p') "pop" apos) [e] [] p1) pos) (S.popAsg i j p) := by
  obtain ⟨t, a1, a2⟩ := hk
  exact ⟨_, ps_set hNd hy hyl (pe_bm PySem.F.plainAttrs_list PySem.F.slot_list_pop PySem.F.type_list_pop mt_popAt (pe_var hN hv hd hcd) (pa_cons a1 pa_nil hs) hbase hfew hline hs hplain) hsw hf, ss_popAsg a2⟩
theorem ds_popLast (hNd : X.N.Nodup) (hN : X.N[i]? = some x := by rfl) (hv : Vis X.env.scope x := by first | exact Or.inl rfl | exact Or.inr (Or.inl rfl) | exact Or.inr (Or.inr rfl)) (hd : (x == ("__debug__" : Str)) = false := by decide) (hcd : (x == ("__classdict__" : Str)) = false := by decide)
    (hy : X.N[j]? = some y := by rfl) (hyl : Loc X.env.scope y := by first | exact Or.inl rfl | exact Or.inr rfl) (hf : X.fn y = true ∨ X.env.scope.names.lookup y = some .local := by first | exact .inl rfl | exact .inr rfl)
    (hbase : attributeBase (.Name x p') "pop" X.env (eval (.Name x p') X.env) = eval (.Name x p') X.env := by rfl) (hline : (apos.endLine == p1.line) = true := by rfl)
    (hsw : swapsWith (.Call (.Attribute (.Name x p') "pop" apos) [] [] p1) (some (.Name y p2)) pos.line X.env = pure false := by rfl) : DS cl X d W (.Assign [.Name y p2] (.Call (.Attribute (.Name x p') "pop" apos) [] [] p1) pos) (S.popLast i j) :=
  ⟨_, ps_set hNd hy hyl (pe_bm0 PySem.F.plainAttrs_list PySem.F.slot_list_pop PySem.F.type_list_pop mt_pop (pe_var hN hv hd hcd) hbase hline) hsw hf, ss_popLast⟩
theorem ds_popApp (hk : DE cl X d W e p) (hN : X.N[i]? = some x := by rfl) (hv : Vis X.env.scope x := by first | exact Or.inl rfl | exact Or.inr (Or.inl rfl) | exact Or.inr (Or.inr rfl)) (hd : (x == ("__debug__" : Str)) = false := by decide) (hcd : (x == ("__classdict__" : Str)) = false := by decide)
    (hNy : X.N[j]? = some y := by rfl) (hvy : Vis X.env.scope y := by first | exact Or.inl rfl | exact Or.inr (Or.inl rfl) | exact Or.inr (Or.inr rfl)) (hdy : (y == ("__debug__" : Str)) = false := by decide) (hcdy : (y == ("__classdict__" : Str)) = false := by decide)
    (hbase : attributeBase (.Name x p') "pop" X.env (eval (.Name x p') X.env) = eval (.Name x p') X.env := by rfl)
    (hfew : ((backTo p1 (starEach [e] X.env)).all (fun x => !x.1) && (backToKw p1 (keywordEach [] X.env)).all (fun x => x.1.isSome) && decide ([e].length + ([] : List Keyword).length + (if ([] : List Keyword).isEmpty then 0 else 1) < 30)) = true := by rfl)
    (hline : (apos.endLine == p1.line) = true := by rfl) (hs : starEach [e] X.env = (false, eval e X.env) :: starEach [] X.env := by rfl) (hplain : (backTo p1 (starEach [] X.env)).any (·.1) = false := by rfl)
    {py pc : Pos}
    (hbase2 : attributeBase (.Name y py) "append" X.env (eval (.Name y py) X.env) = eval (.Name y py) X.env := by rfl)
    (hfew2 : ((backTo pc (starEach [.Call (.Attribute (.Name x p') "pop" apos) [e] [] p1] X.env)).all (fun x => !x.1) && (backToKw pc (keywordEach [] X.env)).all (fun x => x.1.isSome) && decide ([Expr.Call (.Attribute (.Name x p') "pop" apos) [e] [] p1].length + ([] : List Keyword).length + (if ([] : List Keyword).isEmpty then 0 else 1) < 30)) = true := by rfl)
    (hline2 : (apos2.endLine == pc.line) = true := by rfl) (hs2 : starEach [.Call (.Attribute (.Name x p') "pop" apos) [e] [] p1] X.env = (false, eval (.Call (.Attribute (.Name x p') "pop" apos) [e] [] p1) X.env) :: starEach [] X.env := by rfl) (hplain2 : (backTo pc (starEach [] X.env)).any (·.1) = false := by rfl)
    (hsw : swapsWith (.Call (.Attribute (.Name y py) "append" apos2) [.Call (.Attribute (.Name x p') "pop" apos) [e] [] p1] [] pc) none pos.line X.env = pure false := by rfl) :
    DS cl X d W (.Expr (.Call (.Attribute (.Name y py) "append" apos2) [.Call (.Attribute (.Name x p') "pop" apos) [e] [] p1] [] pc) pos) (S.popApp i j p) := by
  obtain ⟨t, a1, a2⟩ := hk
  exact ⟨_, ps_expr (pe_bm PySem.F.plainAttrs_list PySem.F.slot_list_append PySem.F.type_list_append mt_append (pe_var hNy hvy hdy hcdy)
    (pa_cons (pe_bm PySem.F.plainAttrs_list PySem.F.slot_list_pop PySem.F.type_list_pop mt_popAt (pe_var hN hv hd hcd) (pa_cons a1 pa_nil hs) hbase hfew hline hs hplain) pa_nil hs2) hbase2 hfew2 hline2 hs2 hplain2) hsw, ss_popApp a2⟩
theorem ds_rev (hN : X.N[i]? = some x := by rfl) (hv : Vis X.env.scope x := by first | exact Or.inl rfl | exact Or.inr (Or.inl rfl) | exact Or.inr (Or.inr rfl)) (hd : (x == ("__debug__" : Str)) = false := by decide) (hcd : (x == ("__classdict__" : Str)) = false := by decide)
    (hbase : attributeBase (.Name x p') "reverse" X.env (eval (.Name x p') X.env) = eval (.Name x p') X.env := by rfl) (hline : (apos.endLine == p1.line) = true := by rfl)
    (hsw : swapsWith (.Call (.Attribute (.Name x p') "reverse" apos) [] [] p1) none pos.line X.env = pure false := by rfl) : DS cl X d W (.Expr (.Call (.Attribute (.Name x p') "reverse" apos) [] [] p1) pos) (S.rev i) :=
  ⟨_, ps_expr (pe_bm0 PySem.F.plainAttrs_list PySem.F.slot_list_reverse PySem.F.type_list_reverse mt_reverse (pe_var hN hv hd hcd) hbase hline) hsw, ss_rev⟩
theorem ds_clear (hN : X.N[i]? = some x := by rfl) (hv : Vis X.env.scope x := by first | exact Or.inl rfl | exact Or.inr (Or.inl rfl) | exact Or.inr (Or.inr rfl)) (hd : (x == ("__debug__" : Str)) = false := by decide) (hcd : (x == ("__classdict__" : Str)) = false := by decide)
    (hbase : attributeBase (.Name x p') "clear" X.env (eval (.Name x p') X.env) = eval (.Name x p') X.env := by rfl) (hline : (apos.endLine == p1.line) = true := by rfl)
    (hsw : swapsWith (.Call (.Attribute (.Name x p') "clear" apos) [] [] p1) none pos.line X.env = pure false := by rfl) : DS cl X d W (.Expr (.Call (.Attribute (.Name x p') "clear" apos) [] [] p1) pos) (S.clear i) :=
  ⟨_, ps_expr (pe_bm0 PySem.F.plainAttrs_list PySem.F.slot_list_clear PySem.F.type_list_clear mt_clear (pe_var hN hv hd hcd) hbase hline) hsw, ss_clear⟩
end
end Py

set_option Elab.async false
set_option linter.all false
set_option maxRecDepth 100000
set_option maxHeartbeats 4000000
namespace Py
open PySem

/-! ### evaluation: what the combinators are on told frames -/
def RS.k (r : RS) (u : Sx) : RS := match r with
  | .nx env => u env
  | r => r
def flatAll (ts : List T) : Bool := ts.all flat
section
variable {α β : Type} {d i j : Nat} {env : Fv} {t : T} {ts : List T} {o : Option Sl} {p q : P.Ex1} {b c : P.Bx} {a : P.Ax} {s u : Sx} {f g : T → T → Option T}
@[simp] theorem k_nx : RS.k (.nx env) u = u env := nrfl rfl
@[simp] theorem k_rt : RS.k (.rt t) u = .rt t := nrfl rfl
@[simp] theorem k_br : RS.k (.br env) u = .br env := nrfl rfl
@[simp] theorem k_ct : RS.k (.ct env) u = .ct env := nrfl rfl
@[simp] theorem k_er {e : Exn} : RS.k (.er e env) u = .er e env := nrfl rfl
@[simp] theorem k_stuck : RS.k .stuck u = .stuck := nrfl rfl
@[simp] theorem k_ite {z : Prop} [Decidable z] {x y : RS} : RS.k (if z then x else y) u = if z then RS.k x u else RS.k y u := by split <;> rfl
@[simp] theorem ev_seq : S.seq s u env = RS.k (s env) u := nrfl rfl
@[simp] theorem ev_skip : S.skip env = .nx env := nrfl rfl
@[simp] theorem fin_nx : fin (.nx env) = .ok .non := nrfl rfl
@[simp] theorem fin_rt : fin (.rt t) = .ok t := nrfl rfl
@[simp] theorem fin_er {e : Exn} : fin (.er e env) = .er e := nrfl rfl
@[simp] theorem fin_stuck : fin .stuck = .stuck := nrfl rfl
@[simp] theorem fin_ite {z : Prop} [Decidable z] {x y : RS} : fin (if z then x else y) = if z then fin x else fin y := by split <;> rfl
@[simp] theorem hide_nil : hide [] = [] := nrfl rfl
@[simp] theorem hide_cons : hide (o :: env) = Sl.hide o :: hide env := nrfl rfl
@[simp] theorem slh_none : Sl.hide none = none := nrfl rfl
@[simp] theorem slh_fz : Sl.hide (some (.fz t)) = some (.fz t) := nrfl rfl
@[simp] theorem slh_ol : Sl.hide (some (.ol ts)) = none := nrfl rfl
@[simp] theorem slh_oi {cc : Nat} {ns : List Str} : Sl.hide (some (.oi cc ns ts)) = none := nrfl rfl
def slT (d i : Nat) : Option (Option Sl) → Option T
  | some (some (.fz t)) => some t
  | some (some (.ol ts)) => some (.lst (some (d, i)) ts)
  | some (some (.oi c ns ts)) => some (.ins (some (d, i)) c ns ts)
  | _ => none
@[simp] theorem ev_rd : rd d i env = slT d i env[i]? := nrfl rfl
@[simp] theorem slT_fz : slT d i (some (some (.fz t))) = some t := nrfl rfl
@[simp] theorem slT_ol : slT d i (some (some (.ol ts))) = some (.lst (some (d, i)) ts) := nrfl rfl
@[simp] theorem slT_oi {cc : Nat} {ns : List Str} : slT d i (some (some (.oi cc ns ts))) = some (.ins (some (d, i)) cc ns ts) := nrfl rfl
@[simp] theorem ev_asg : S.asg i p env = (p (hide env)).then_ env fun t => if i < env.length then .nx (env.set i (some (.fz t))) else .stuck := nrfl rfl
@[simp] theorem ev_asgX : S.asgX i p env = (p env).thenX env fun t => if flat t = true ∧ i < env.length then .nx (env.set i (some (.fz t))) else .stuck := nrfl rfl
@[simp] theorem ev_new {pn : Fv → Res (List T)} : S.new i pn env = (pn (hide env)).then_ env fun ts => if i < env.length then .nx (env.set i (some (.ol ts))) else .stuck := nrfl rfl
@[simp] theorem ev_ret : S.ret p env = (p (hide env)).then_ env fun t => .rt t := nrfl rfl
@[simp] theorem ev_retX : S.retX p env = (p env).thenX env fun t => if flat t = true then .rt t else .stuck := nrfl rfl
@[simp] theorem ev_retN : S.retN env = .rt .non := nrfl rfl
@[simp] theorem ev_brk : S.brk env = .br env := nrfl rfl
@[simp] theorem ev_cnt : S.cnt env = .ct env := nrfl rfl
@[simp] theorem ev_expr : S.expr p env = (p env).thenX env fun _ => .nx env := nrfl rfl
@[simp] theorem ev_ite : S.ite b s u env = (b env).thenX env fun c => if c = true then s env else u env := nrfl rfl
@[simp] theorem ev_for {tg : T → Fv → Option Fv} {pi : Fv → Res (List T)} : S.for_ tg pi s env = (pi (hide env)).then_ env fun ts => S.turns tg s ts env := nrfl rfl
@[simp] theorem ev_forX {tg : T → Fv → Option Fv} {pi : Fv → Res (List T)} : S.forX tg pi s env = (pi env).thenX env fun ts => if flatAll ts = true then S.turns tg s ts env else .stuck := nrfl rfl
@[simp] theorem ev_unp {tg : T → Fv → Option Fv} : S.unp tg p env = (p (hide env)).then_ env fun t => (match tg t env with
  | some env => .nx env
  | none => .stuck) := nrfl rfl
def appK (i : Nat) (m : Res T) (env : Fv) : Option (Option Sl) → RS
  | some (some (.ol ts)) => m.then_ env fun t => if ts.length < sizeLine then .nx (env.set i (some (.ol (ts ++ [t])))) else .stuck
  | _ => .stuck
def appXK (i : Nat) (m : Res T) (env : Fv) : Option (Option Sl) → RS
  | some (some (.ol ts)) => m.thenX env fun t => if flat t = true ∧ ts.length < sizeLine then .nx (env.set i (some (.ol (ts ++ [t])))) else .stuck
  | _ => .stuck
def frzK (i : Nat) (s : Sx) (env : Fv) : Option (Option Sl) → RS
  | some (some (.ol ts)) => s (env.set i (some (.fz (.lst none ts))))
  | some (some (.oi c ns ts)) => s (env.set i (some (.fz (.ins none c ns ts))))
  | _ => s env
@[simp] theorem ev_app : S.app i p env = appK i (p (hide env)) env env[i]? := by
  unfold S.app appK
  rfl
@[simp] theorem ev_appX : S.appX i p env = appXK i (p env) env env[i]? := by
  unfold S.appX appXK
  rfl
@[simp] theorem ev_frz : S.frz i s env = frzK i s env env[i]? := by
  unfold S.frz frzK
  rfl
@[simp] theorem appK_ol {m : Res T} : appK i m env (some (some (.ol ts))) = m.then_ env fun t => if ts.length < sizeLine then .nx (env.set i (some (.ol (ts ++ [t])))) else .stuck := nrfl rfl
@[simp] theorem appXK_ol {m : Res T} : appXK i m env (some (some (.ol ts))) = m.thenX env fun t => if flat t = true ∧ ts.length < sizeLine then .nx (env.set i (some (.ol (ts ++ [t])))) else .stuck := nrfl rfl
@[simp] theorem frzK_ol : frzK i s env (some (some (.ol ts))) = s (env.set i (some (.fz (.lst none ts)))) := nrfl rfl
@[simp] theorem frzK_fz : frzK i s env (some (some (.fz t))) = s env := nrfl rfl
@[simp] theorem frzK_none : frzK i s env (some none) = s env := nrfl rfl
@[simp] theorem flat_int {z : Int} : flat (.int z) = true := nrfl rfl
@[simp] theorem flat_bl {z : Bool} : flat (.bl z) = true := nrfl rfl
@[simp] theorem flat_str {z : Str} : flat (.str z) = true := nrfl rfl
@[simp] theorem flat_non : flat .non = true := nrfl rfl
@[simp] theorem ev_tName : S.tName i t env = if i < env.length then some (env.set i (some (.fz t))) else none := nrfl rfl
@[simp] theorem ev_tTup {gs : List (T → Fv → Option Fv)} : S.tTup gs (.tup ts) env = S.tNames gs ts env := nrfl rfl
@[simp] theorem ev_tNames0 : S.tNames [] [] env = some env := nrfl rfl
@[simp] theorem ev_tNames {g : T → Fv → Option Fv} {gs : List (T → Fv → Option Fv)} : S.tNames (g :: gs) (t :: ts) env = (g t env).bind fun env => S.tNames gs ts env := nrfl rfl
@[simp] theorem ev_var : P.var d i env = Res.of (rd d i env) := nrfl rfl
@[simp] theorem ev_c : P.c t env = .ok t := nrfl rfl
@[simp] theorem ev_bin : P.bin f p q env = (p env).bind fun x => (q env).bind fun y => .of (f x y) := nrfl rfl
@[simp] theorem ev_un {h : T → Option T} : P.un h p env = (p env).bind fun x => .of (h x) := nrfl rfl
@[simp] theorem ev_tb : P.tb p env = (p env).bind fun x => .of x.boo := nrfl rfl
@[simp] theorem ev_tr : P.tr p env = (p env).bind fun x => .of x.tru := nrfl rfl
@[simp] theorem ev_and : P.and b c env = (b env).bind fun b => if b = true then c env else .ok false := nrfl rfl
@[simp] theorem ev_or : P.or b c env = (b env).bind fun b => if b = true then .ok true else c env := nrfl rfl
@[simp] theorem ev_not : P.not b env = (b env).bind fun b => .ok (!b) := nrfl rfl
@[simp] theorem ev_andV : P.andV p q env = (p env).bind fun x => (Res.of x.boo).bind fun b => if b = true then q env else .ok (.bl false) := nrfl rfl
@[simp] theorem ev_orV : P.orV p q env = (p env).bind fun x => (Res.of x.boo).bind fun b => if b = true then .ok (.bl true) else q env := nrfl rfl
@[simp] theorem ev_notV : P.notV p env = (p env).bind fun x => (Res.of x.boo).bind fun b => .ok (.bl (!b)) := nrfl rfl
@[simp] theorem ev_iteE : P.ite b p q env = (b env).bind fun b => if b = true then p env else q env := nrfl rfl
@[simp] theorem ev_chain {r : P.Ex1} : P.chain f g p q r env = (p env).bind fun x => (q env).bind fun y => (Res.of (f x y)).bind fun z => (Res.of z.boo).bind fun b => if b = true then (r env).bind fun u => .of (g y u) else .ok (.bl false) := nrfl rfl
@[simp] theorem ev_nil : P.nil env = .ok [] := nrfl rfl
@[simp] theorem ev_cons : P.cons p a env = (p env).bind fun x => (a env).bind fun xs => .ok (x :: xs) := nrfl rfl
@[simp] theorem ev_tup : P.tup a env = (a env).bind fun xs => if lfit xs.length = true then .ok (.tup xs) else .stuck := nrfl rfl
@[simp] theorem ev_lst : P.lst a env = (a env).bind fun xs => if lfit xs.length = true then .ok (.lst none xs) else .stuck := nrfl rfl
@[simp] theorem ev_lfits : lfits a env = (a env).bind fun xs => if lfit xs.length = true then .ok xs else .stuck := nrfl rfl
@[simp] theorem ev_call {h : List T → Res T} : P.call h a env = (a env).bind h := nrfl rfl
@[simp] theorem ev_items : P.items p env = (p env).bind fun t => .of t.items := nrfl rfl
@[simp] theorem ev_binN {h : T → T → Option (List T)} : P.binN h p q env = (p env).bind fun x => (q env).bind fun y => .of (h x y) := nrfl rfl
@[simp] theorem ev_lc {own : List Nat} {tg : T → Fv → Option Fv} {pi : Fv → Res (List T)} : P.lc own tg pi b p env = (P.comp own tg pi b p env).bind fun ys => .ok (.lst none ys) := nrfl rfl
@[simp] theorem ev_comp {own : List Nat} {tg : T → Fv → Option Fv} {pi : Fv → Res (List T)} : P.comp own tg pi b p env = (pi env).bind fun xs => if lfit xs.length = true then P.turnsC tg b p (wipeE env own) xs else .stuck := nrfl rfl
@[simp] theorem ev_wipe0 : wipeE env [] = env := nrfl rfl
@[simp] theorem ev_wipe {v : Nat} {vs : List Nat} : wipeE env (v :: vs) = (wipeE env vs).set v none := nrfl rfl
def rng1K : List T → Res (List T)
  | [.int n] => if rfit n = true then .ok (rng 0 n.toNat) else .stuck
  | _ => .stuck
def rng2K : List T → Res (List T)
  | [.int m, .int n] => if (rfit m && rfit n) = true then .ok (rng m (n - m).toNat) else .stuck
  | _ => .stuck
@[simp] theorem ev_rng1 : P.rng1 a env = (a env).bind rng1K := nrfl rfl
@[simp] theorem ev_rng2 : P.rng2 a env = (a env).bind rng2K := nrfl rfl
@[simp] theorem rng1K_int {n : Int} : rng1K [.int n] = if rfit n = true then .ok (rng 0 n.toNat) else .stuck := nrfl rfl
@[simp] theorem rng2K_int {m n : Int} : rng2K [.int m, .int n] = if (rfit m && rfit n) = true then .ok (rng m (n - m).toNat) else .stuck := nrfl rfl
@[simp] theorem flatAll_rng {lo : Int} {n : Nat} : flatAll (rng lo n) = true := List.all_eq_true.mpr fun x hx => by
  obtain ⟨k, _, rfl⟩ := List.mem_map.mp hx
  rfl
@[simp] theorem flatAll_ints {l : List Int} : flatAll (l.map T.int) = true := List.all_eq_true.mpr fun x hx => by
  obtain ⟨k, _, rfl⟩ := List.mem_map.mp hx
  rfl
@[simp] theorem ev_yes : P.yes env = .ok true := nrfl rfl
@[simp] theorem of_none : (Res.of (none : Option α)) = .stuck := nrfl rfl
@[simp] theorem of_ite {z : Prop} [Decidable z] {x y : Option α} : Res.of (if z then x else y) = if z then Res.of x else Res.of y := by split <;> rfl
@[simp] theorem bind_ite {z : Prop} [Decidable z] {x y : Res α} {h : α → Res β} : Res.bind (if z then x else y) h = if z then Res.bind x h else Res.bind y h := by split <;> rfl
@[simp] theorem then_ite {z : Prop} [Decidable z] {x y : Res α} {h : α → RS} : Res.then_ (if z then x else y) env h = if z then Res.then_ x env h else Res.then_ y env h := by split <;> rfl
@[simp] theorem thenX_ite {z : Prop} [Decidable z] {x y : Res α} {h : α → RS} : Res.thenX (if z then x else y) env h = if z then Res.thenX x env h else Res.thenX y env h := by split <;> rfl
end
/-! ### loops -/
theorem turns_pre {β : Type} {tg : T → Fv → Option Fv} {body : Sx} {g : β → T} {R : List β → Fv → Prop} : ∀ (xs : List β) (pre : List β) (env : Fv),
    (∀ p x post e, pre ++ xs = p ++ x :: post → R p e → ∃ e1 e2, tg (g x) e = some e1 ∧ (body e1 = .nx e2 ∨ body e1 = .ct e2) ∧ R (p ++ [x]) e2) → R pre env → ∃ e, S.turns tg body (xs.map g) env = .nx e ∧ R (pre ++ xs) e
  | [], pre, env, _, r => ⟨env, rfl, by rw [List.append_nil]; exact r⟩
  | x :: xs, pre, env, h, r => by
    obtain ⟨e1, e2, h1, h2, h3⟩ := h pre x xs env rfl r
    obtain ⟨e, h4, h5⟩ := turns_pre xs (pre ++ [x]) e2 (fun p y post e q => h p y post e (by rw [← q, List.append_assoc]; rfl)) h3
    refine ⟨e, ?_, by rw [List.append_assoc] at h5; exact h5⟩
    rw [List.map_cons]
    show (match tg (g x) env with
      | some env1 => (match body env1 with
        | .nx env => S.turns tg body (xs.map g) env
        | .ct env => S.turns tg body (xs.map g) env
        | .br env => .nx env
        | r => r)
      | none => .stuck) = _
    rw [h1]
    rcases h2 with h2 | h2
    · simp only [h2]; exact h4
    · simp only [h2]; exact h4
/-- a for whose state is a fold -/
theorem turns_fold {β σ : Type} {tg : T → Fv → Option Fv} {body : Sx} {g : β → T} {step : σ → β → σ} {R : σ → Fv → Prop} : ∀ (xs : List β) (s : σ) (env : Fv),
    (∀ s x e, x ∈ xs → R s e → ∃ e1 e2, tg (g x) e = some e1 ∧ (body e1 = .nx e2 ∨ body e1 = .ct e2) ∧ R (step s x) e2) → R s env → ∃ e, S.turns tg body (xs.map g) env = .nx e ∧ R (xs.foldl step s) e
  | [], s, env, _, r => ⟨env, rfl, r⟩
  | x :: xs, s, env, h, r => by
    obtain ⟨e1, e2, h1, h2, h3⟩ := h s x env List.mem_cons_self r
    obtain ⟨e, h4, h5⟩ := turns_fold xs (step s x) e2 (fun s y e m => h s y e (List.mem_cons_of_mem _ m)) h3
    refine ⟨e, ?_, h5⟩
    rw [List.map_cons]
    show (match tg (g x) env with
      | some env1 => (match body env1 with
        | .nx env => S.turns tg body (xs.map g) env
        | .ct env => S.turns tg body (xs.map g) env
        | .br env => .nx env
        | r => r)
      | none => .stuck) = _
    rw [h1]
    rcases h2 with h2 | h2
    · simp only [h2]; exact h4
    · simp only [h2]; exact h4
/-- a for that may return: found tells at which items -/
theorem turns_find {β : Type} {tg : T → Fv → Option Fv} {body : Sx} {g : β → T} {R : Fv → Prop} {hit : β → Bool} {r : T} : ∀ (xs : List β) (env : Fv),
    (∀ x e, x ∈ xs → R e → ∃ e1, tg (g x) e = some e1 ∧ ((hit x = true ∧ body e1 = .rt r) ∨ (hit x = false ∧ ∃ e2, (body e1 = .nx e2 ∨ body e1 = .ct e2) ∧ R e2))) → R env →
    (xs.any hit = true ∧ S.turns tg body (xs.map g) env = .rt r) ∨ (xs.any hit = false ∧ ∃ e, S.turns tg body (xs.map g) env = .nx e ∧ R e)
  | [], env, _, q => .inr ⟨rfl, env, rfl, q⟩
  | x :: xs, env, h, q => by
    obtain ⟨e1, h1, h2⟩ := h x env List.mem_cons_self q
    have e0 : S.turns tg body ((x :: xs).map g) env = (match tg (g x) env with
      | some env1 => (match body env1 with
        | .nx env => S.turns tg body (xs.map g) env
        | .ct env => S.turns tg body (xs.map g) env
        | .br env => .nx env
        | r => r)
      | none => .stuck) := nrfl rfl
    rw [e0, h1]
    rcases h2 with ⟨hh, hb⟩ | ⟨hh, e2, hb, hq⟩
    · exact .inl ⟨by rw [List.any_cons, hh]; rfl, by simp only [hb]⟩
    · rw [List.any_cons, hh, Bool.false_or]
      have ih := turns_find xs e2 (fun y e m => h y e (List.mem_cons_of_mem _ m)) hq
      rcases hb with hb | hb
      · simp only [hb]; exact ih
      · simp only [hb]; exact ih
theorem turnsC_map {β : Type} {tg : T → Fv → Option Fv} {b : P.Bx} {p : P.Ex1} {env : Fv} {g : β → T} {c : β → Bool} {f : β → T} : ∀ (xs : List β),
    (∀ x, x ∈ xs → ∃ e1, tg (g x) env = some e1 ∧ b e1 = .ok (c x) ∧ (c x = true → p e1 = .ok (f x))) → P.turnsC tg b p env (xs.map g) = .ok ((xs.filter c).map f)
  | [], _ => rfl
  | x :: xs, h => by
    obtain ⟨e1, h1, h2, h3⟩ := h x List.mem_cons_self
    have ih := turnsC_map xs fun y m => h y (List.mem_cons_of_mem _ m)
    rw [List.map_cons]
    show (match tg (g x) env with
      | some env1 => (match b env1 with
        | .ok bb => if bb = true then (match p env1 with
            | .ok y => (P.turnsC tg b p env (xs.map g)).bind fun ys => .ok (y :: ys)
            | _ => .stuck) else P.turnsC tg b p env (xs.map g)
        | _ => .stuck)
      | none => .stuck) = _
    simp only [h1, h2]
    cases q : c x with
    | true =>
      simp only [if_true, h3 q, ih, Res.bind_ok]
      rw [List.filter_cons_of_pos q, List.map_cons]
    | false =>
      rw [if_neg Bool.false_ne_true, ih, List.filter_cons_of_neg (by rw [q]; exact Bool.false_ne_true)]
/-- step by step -/
def iter {σ : Type} (f : σ → σ) : Nat → σ → σ
  | 0, s => s
  | n + 1, s => iter f n (f s)
/-- a while: m goes down -/
theorem while_rel {σ : Type} {b : P.Bx} {body : Sx} {step : σ → σ} {go : σ → Bool} {R : σ → Fv → Prop} {m : σ → Nat}
    (h : ∀ s e, R s e → b e = .ok (go s) ∧ (go s = true → m (step s) < m s ∧ ∃ e2, (body e = .nx e2 ∨ body e = .ct e2) ∧ R (step s) e2)) : ∀ (n : Nat) (s : σ) (env : Fv), R s env → m s < n →
    ∃ k e, S.while_ b body n env = .nx e ∧ R (iter step k s) e ∧ go (iter step k s) = false
  | 0, s, env, _, hm => absurd hm (Nat.not_lt_zero _)
  | n + 1, s, env, r, hm => by
    obtain ⟨h1, h2⟩ := h s env r
    have e0 : S.while_ b body (n + 1) env = (b env).thenX env fun b' => if b' = true then (match body env with
      | .nx env => S.while_ b body n env
      | .ct env => S.while_ b body n env
      | .br env => .nx env
      | r => r) else .nx env := rfl
    rw [e0, h1, Res.thenX_ok]
    cases q : go s with
    | false => exact ⟨0, env, by rw [if_neg Bool.false_ne_true], r, q⟩
    | true =>
      obtain ⟨h3, e2, h4, h5⟩ := h2 q
      obtain ⟨k, e, w1, w2, w3⟩ := while_rel h n (step s) e2 h5 (by omega)
      refine ⟨k + 1, e, ?_, w2, w3⟩
      rw [if_pos rfl]
      rcases h4 with h4 | h4
      · simp only [h4]; exact w1
      · simp only [h4]; exact w1
end Py

set_option Elab.async false
set_option linter.all false
set_option maxRecDepth 100000
set_option maxHeartbeats 4000000
namespace Py
open PySem L2

/-! ### the operators at told trees -/
section
variable {i j : Int} {g g' : Option Tag} {ts us : List T} {b c : Bool} {x y : T} {d n : Nat} {env : Fv} {o : Option Sl}
@[simp] theorem add_int : T.add (.int i) (.int j) = some (.int (i + j)) := nrfl rfl
@[simp] theorem sub_int : T.sub (.int i) (.int j) = some (.int (i - j)) := nrfl rfl
theorem mul_int (h : mfit i j = true) : T.mul (.int i) (.int j) = some (.int (i * j)) := if_pos h
theorem mod_int (h : 0 < j) : T.mod (.int i) (.int j) = some (.int (i % j)) := if_pos (decide_eq_true h)
theorem fdiv_int (h : 0 < j) (h2 : dfit j = true) : T.fdiv (.int i) (.int j) = some (.int (i / j)) := if_pos (by rw [decide_eq_true h, h2]; rfl)
theorem shl_int (h : 0 ≤ j) (h2 : j ≤ 1000000) (h3 : sfit i = true) : T.shl (.int i) (.int j) = some (.int (i * 2 ^ j.toNat)) := if_pos (by rw [decide_eq_true h, decide_eq_true h2, h3]; rfl)
theorem shl_one (h : 0 ≤ j) (h2 : j ≤ 1000000) : T.shl (.int 1) (.int j) = some (.int (2 ^ j.toNat)) := by rw [shl_int h h2 rfl, Int.one_mul]
theorem shr_int (h : 0 ≤ j) : T.shr (.int i) (.int j) = some (.int (i / 2 ^ j.toNat)) := if_pos (decide_eq_true h)
@[simp] theorem band_int : T.band (.int i) (.int j) = some (.int (Builtin.bitAnd i j)) := nrfl rfl
@[simp] theorem bor_int : T.bor (.int i) (.int j) = some (.int (Builtin.bitOr i j)) := nrfl rfl
@[simp] theorem inv_int : T.inv (.int i) = some (.int (Builtin.bitNot i)) := nrfl rfl
@[simp] theorem neg_int : T.neg (.int i) = some (.int (-i)) := nrfl rfl
@[simp] theorem eq_int : T.eq (.int i) (.int j) = some (.bl (decide (i = j))) := by
  show (if (true && true) = true then some (T.bl (i == j)) else none) = _
  rfl
@[simp] theorem ne_int : T.ne (.int i) (.int j) = some (.bl (!decide (i = j))) := by
  show (if (true && true) = true then some (T.bl (!(i == j))) else none) = _
  rfl
@[simp] theorem eq_bl : T.eq (.bl b) (.bl c) = some (.bl (b == c)) := nrfl rfl
@[simp] theorem ne_bl : T.ne (.bl b) (.bl c) = some (.bl (b != c)) := nrfl rfl
@[simp] theorem lt_int : T.lt (.int i) (.int j) = some (.bl (decide (i < j))) := nrfl rfl
@[simp] theorem le_int : T.le (.int i) (.int j) = some (.bl (decide (i ≤ j))) := nrfl rfl
@[simp] theorem gt_int : T.gt (.int i) (.int j) = some (.bl (decide (j < i))) := nrfl rfl
@[simp] theorem ge_int : T.ge (.int i) (.int j) = some (.bl (decide (j ≤ i))) := nrfl rfl
@[simp] theorem boo_bl : T.boo (.bl b) = some b := nrfl rfl
@[simp] theorem items_lst : T.items (.lst g ts) = some ts := nrfl rfl
@[simp] theorem items_ro : T.items (.ro ts) = some ts := nrfl rfl
@[simp] theorem items_tup : T.items (.tup ts) = some ts := nrfl rfl
@[simp] theorem B_int : B.int [.int i] = some (.int i) := nrfl rfl
@[simp] theorem B_intb : B.int [.bl b] = some (.int (if b then 1 else 0)) := nrfl rfl
@[simp] theorem B_len : B.len [.lst g ts] = some (.int ts.length) := nrfl rfl
@[simp] theorem B_lenR : B.len [.ro ts] = some (.int ts.length) := nrfl rfl
@[simp] theorem B_lenT : B.len [.tup ts] = some (.int ts.length) := nrfl rfl
@[simp] theorem tru_bl : T.tru (.bl b) = some b := nrfl rfl
theorem ixN_nat {n k : Nat} (h : k < n) : ixN n (k : Int) = some k := by
  unfold ixN
  rw [if_pos (Int.natCast_nonneg k), if_pos (by omega)]
  rfl
theorem atI_nat {α : Type} {xs : List α} {k : Nat} (h : k < xs.length) : atI xs (k : Int) = xs[k]? := by
  unfold atI
  rw [ixN_nat h]
  rfl
theorem atI_int {α : Type} {xs : List α} (h0 : 0 ≤ i) (h : i < xs.length) : atI xs i = xs[i.toNat]? := by
  obtain ⟨k, rfl⟩ := Int.eq_ofNat_of_zero_le h0
  rw [atI_nat (by omega)]
  rfl
@[simp] theorem ix_lst : T.ix (.lst g ts) (.int i) = atI ts i := nrfl rfl
@[simp] theorem ix_ro : T.ix (.ro ts) (.int i) = atI ts i := nrfl rfl
@[simp] theorem ix_tup : T.ix (.tup ts) (.int i) = atI ts i := nrfl rfl
theorem lfit_ok {n : Nat} (h : n ≤ 1000000) : lfit n = true := lfit_of (by omega)
theorem rfit_ok (h0 : -1000000000 ≤ i) (h : i ≤ 1000000000) : rfit i = true := by
  unfold rfit
  rw [decide_eq_true (by omega : -(2 ^ 62) ≤ i), decide_eq_true (by omega : i < 2 ^ 62)]
  rfl
@[simp] theorem cat_lst (h : lfit (ts.length + us.length) = true) : T.catN (.lst g ts) (.lst g' us) = some (ts ++ us) := if_pos h
theorem addL (h : lfit (ts.length + us.length) = true) : T.add (.lst g ts) (.lst g' us) = some (.lst none (ts ++ us)) := if_pos h
end
/-- the frame of a call -/
theorem run_eq {n : Nat} {s : Sx} {ts : List T} : run n s ts = fin (s (ent n ts)) := rfl

/-! ### the cells and digits that each law draws -/
/-- digits within sizes -/
def Digs : List Int → List Int → Prop
  | [], [] => True
  | x :: xs, s :: ss => (0 ≤ x ∧ x < s) ∧ Digs xs ss
  | _, _ => False
theorem Digs.snoc : ∀ {xs ss : List Int} {x s : Int}, Digs xs ss → 0 ≤ x → x < s → Digs (xs ++ [x]) (ss ++ [s])
  | [], [], _, _, _, h1, h2 => ⟨⟨h1, h2⟩, trivial⟩
  | _ :: _, _ :: _, _, _, h, h1, h2 => ⟨h.1, Digs.snoc h.2 h1 h2⟩
theorem Digs.length : ∀ {xs ss : List Int}, Digs xs ss → xs.length = ss.length
  | [], [], _ => rfl
  | _ :: _, _ :: _, h => by rw [List.length_cons, List.length_cons, Digs.length h.2]
namespace LL
def S_digitsG (pw : T → T → Option T) (d : Nat) : Sx :=
  S.seq (S.new 2 (lfits P.nil))
  (S.seq (S.asg 3 (P.bin T.mod (P.call (fun ts => .of (B.int ts)) (P.cons (P.var d 0) P.nil)) (P.bin T.mul (P.bin T.mul (P.bin pw (P.c (.int 10)) (P.c (.int 60))) (P.bin pw (P.c (.int 10)) (P.c (.int 60)))) (P.bin pw (P.c (.int 10)) (P.c (.int 60))))))
  (S.seq (S.ite (P.tb (P.bin T.ge (P.var d 3) (P.bin pw (P.c (.int 10)) (P.c (.int 18)))))
  (S.seq (S.asg 3 (P.bin T.sub (P.var d 3) (P.bin pw (P.c (.int 10)) (P.c (.int 18)))))
  (S.seq (S.for_ (S.tName 4) (P.items (P.var d 1))
  (S.seq (S.app 2 (P.bin T.mod (P.call (fun ts => .of (B.int ts)) (P.cons (P.var d 3) P.nil)) (P.var d 4)))
  (S.asg 3 (P.bin T.fdiv (P.call (fun ts => .of (B.int ts)) (P.cons (P.var d 3) P.nil)) (P.var d 4)))))
  (S.frz 2 (S.ret (P.var d 2)))))
  S.skip)
  (S.seq (S.asg 5 (P.bin T.mod (P.call (fun ts => .of (B.int ts)) (P.cons (P.var d 3) P.nil)) (P.c (.int 2147483629))))
  (S.seq (S.forX (S.tName 6) (P.rng1 (P.cons (P.call (fun ts => .of (B.len ts)) (P.cons (P.var d 1) P.nil)) P.nil))
  (S.seq (S.asg 5 (P.bin T.mod (P.call (fun ts => .of (B.int ts)) (P.cons (P.bin T.add (P.bin T.add (P.bin T.mul (P.var d 5) (P.c (.int 48271))) (P.bin T.mul (P.c (.int 974711)) (P.var d 6))) (P.c (.int 12345))) P.nil)) (P.c (.int 2147483647))))
  (S.seq (S.asg 7 (P.bin T.mod (P.call (fun ts => .of (B.int ts)) (P.cons (P.bin T.mul (P.var d 5) (P.bin T.add (P.bin T.fdiv (P.var d 5) (P.c (.int 65537))) (P.c (.int 3)))) P.nil)) (P.c (.int 2147483629))))
  (S.app 2 (P.bin T.mod (P.call (fun ts => .of (B.int ts)) (P.cons (P.bin T.fdiv (P.var d 7) (P.c (.int 19))) P.nil)) (P.bin T.ix (P.var d 1) (P.var d 6)))))))
  (S.frz 2 (S.ret (P.var d 2)))))))
def S_digits (d : Nat) : Sx := S_digitsG T.pow d
def S_cell (d : Nat) : Sx :=
  S.seq (S.ite (P.tb (P.bin T.lt (P.var d 1) (P.call (fun ts => .of (B.len ts)) (P.cons (P.var d 0) P.nil))))
  (S.ret (P.call (fun ts => .of (B.int ts)) (P.cons (P.bin T.ix (P.var d 0) (P.var d 1)) P.nil)))
  S.skip)
  (S.seq (S.asg 2 (P.c (.int 7)))
  (S.seq (S.for_ (S.tName 3) (P.items (P.var d 0))
  (S.asg 2 (P.bin T.mod (P.call (fun ts => .of (B.int ts)) (P.cons (P.bin T.add (P.bin T.mul (P.var d 2) (P.c (.int 33))) (P.bin T.mod (P.call (fun ts => .of (B.int ts)) (P.cons (P.var d 3) P.nil)) (P.c (.int 999983)))) P.nil)) (P.c (.int 999983)))))
  (S.ret (P.bin T.mod (P.call (fun ts => .of (B.int ts)) (P.cons (P.bin T.mul (P.bin T.mul (P.bin T.add (P.var d 2) (P.c (.int 11))) (P.bin T.add (P.var d 1) (P.c (.int 5)))) (P.c (.int 48271))) P.nil)) (P.c (.int 2147483647))))))
end LL
set_option exponentiation.threshold 100000
theorem mul_small {i j : Int} (h1 : i.natAbs < 2 ^ 1000) (h2 : j.natAbs < 2 ^ 1000) : T.mul (.int i) (.int j) = some (.int (i * j)) := mul_int (mfit_of 1000 1000 h1 h2)
theorem nat_lt_big {i : Int} (h1 : -1000000000000000000 ≤ i) (h2 : i ≤ 1000000000000000000) : i.natAbs < 2 ^ 1000 := Nat.lt_of_le_of_lt (show i.natAbs ≤ 1000000000000000000 by omega) (by decide)
/-- a cell: some whole number -/
theorem cell_ev (d : Nat) (ns : List Int) (k : Nat) (hk : k ≤ 1000000) : ∃ c : Int, run 4 (LL.S_cell d) [.ro (ns.map T.int), .int k] = .ok (.int c) := by
  have e0 : ent 4 [.ro (ns.map T.int), .int k] = [some (.fz (.ro (ns.map T.int))), some (.fz (.int k)), none, none] := rfl
  unfold run LL.S_cell
  rw [e0]
  by_cases h : k < ns.length
  · have e1 : atI (ns.map T.int) (k : Int) = some (.int ns[k]) := by
      rw [atI_nat (by simpa using h), List.getElem?_map, List.getElem?_eq_getElem h]
      rfl
    exact ⟨ns[k], by simp [e1, h]⟩
  · have hf := turns_fold (tg := S.tName 3) (body := S.asg 2 (P.bin T.mod (P.call (fun ts => .of (B.int ts)) (P.cons (P.bin T.add (P.bin T.mul (P.var d 2) (P.c (.int 33))) (P.bin T.mod (P.call (fun ts => .of (B.int ts)) (P.cons (P.var d 3) P.nil)) (P.c (.int 999983)))) P.nil)) (P.c (.int 999983)))) (g := T.int)
      (step := fun (s : Int) (x : Int) => (s * 33 + x % 999983) % 999983) (R := fun s e => (0 ≤ s ∧ s < 999983) ∧ ∃ o, e = [some (.fz (.ro (ns.map T.int))), some (.fz (.int k)), some (.fz (.int s)), o]) ns 7 [some (.fz (.ro (ns.map T.int))), some (.fz (.int k)), some (.fz (.int 7)), none] (by
        rintro s x e - ⟨⟨s1, s2⟩, o, rfl⟩
        refine ⟨_, _, rfl, .inl ?_, ⟨by omega, by omega⟩, some (.fz (.int x)), rfl⟩
        simp [mul_small (nat_lt_big (i := s) (by omega) (by omega)) (nat_lt_big (i := 33) (by omega) (by omega)), mod_int]) ⟨by omega, none, rfl⟩
    obtain ⟨e, h1, ⟨h3, h4⟩, o, rfl⟩ := hf
    generalize ns.foldl (fun (s : Int) (x : Int) => (s * 33 + x % 999983) % 999983) 7 = s at *
    have hc : ¬ ((k : Int) < ns.length) := by omega
    refine ⟨((s + 11) * (k + 5) * 48271) % 2147483647, ?_⟩
    have m1 : T.mul (.int (s + 11)) (.int ((k : Int) + 5)) = some (.int ((s + 11) * (k + 5))) := mul_small (nat_lt_big (by omega) (by omega)) (nat_lt_big (by omega) (by omega))
    have b1 : 0 ≤ (s + 11) * ((k : Int) + 5) := Int.mul_nonneg (by omega) (by omega)
    have b2 : (s + 11) * ((k : Int) + 5) ≤ 1000000 * 1000005 := Int.mul_le_mul (by omega) (by omega) (by omega) (by omega)
    have m2 : T.mul (.int ((s + 11) * (k + 5))) (.int 48271) = some (.int ((s + 11) * (k + 5) * 48271)) := mul_small (nat_lt_big (by omega) (by omega)) (nat_lt_big (by omega) (by omega))
    simp [hc, h1, m1, m2, mod_int]
theorem tens : ∃ a b k e : Int, T.pow (.int 10) (.int 60) = some (.int a) ∧ T.mul (.int a) (.int a) = some (.int b) ∧ T.mul (.int b) (.int a) = some (.int k) ∧ T.pow (.int 10) (.int 18) = some (.int e) ∧ 0 < k :=
  ⟨10 ^ 60, 10 ^ 120, 10 ^ 180, 10 ^ 18, rfl, mul_int (by decide), mul_int (by decide), rfl, by decide⟩
theorem hide_set {e : Fv} {i : Nat} {t : T} {o : Option Sl} (h : e[i]? = some o) : (hide (e.set i (some (.fz t))))[i]? = some (some (.fz t)) := by
  unfold hide
  rw [List.getElem?_map, List.getElem?_set_self (List.getElem?_eq_some_iff.mp h).1]
  rfl
theorem range_pre {n x : Nat} {p post : List Nat} (h : List.range n = p ++ x :: post) : x = p.length ∧ x < n := by
  have e1 : (List.range n)[p.length]? = some x := by rw [h]; simp
  have hlt : p.length < n := by
    have := congrArg List.length h
    simp at this
    omega
  rw [List.getElem?_range hlt] at e1
  cases e1
  exact ⟨rfl, hlt⟩
theorem if_same {α : Type} {c : Prop} [Decidable c] {x : α} : (if c then x else x) = x := by split <;> rfl
/-- the loop of the first branch -/
theorem digitsA (d : Nat) (t0 t1 o5 o6 o7 : Option Sl) (rest : Int) (sz : List Int) (hs : ∀ s ∈ sz, 0 < s ∧ s < 2 ^ 1000) (hl : sz.length ≤ 1000) : ∃ (xs : List Int) (e : Fv), Digs xs sz ∧ e[2]? = some (some (.ol (xs.map T.int))) ∧
    S.turns (S.tName 4) (S.seq (S.app 2 (P.bin T.mod (P.call (fun ts => .of (B.int ts)) (P.cons (P.var d 3) P.nil)) (P.var d 4))) (S.asg 3 (P.bin T.fdiv (P.call (fun ts => .of (B.int ts)) (P.cons (P.var d 3) P.nil)) (P.var d 4)))) (sz.map T.int)
      [t0, t1, some (.ol []), some (.fz (.int rest)), none, o5, o6, o7] = .nx e := by
  have hf := turns_pre (tg := S.tName 4) (body := S.seq (S.app 2 (P.bin T.mod (P.call (fun ts => .of (B.int ts)) (P.cons (P.var d 3) P.nil)) (P.var d 4))) (S.asg 3 (P.bin T.fdiv (P.call (fun ts => .of (B.int ts)) (P.cons (P.var d 3) P.nil)) (P.var d 4))))
    (g := T.int) (R := fun p e => ∃ (xs : List Int) (r : Int) (o : Option Sl), Digs xs p ∧ e = [t0, t1, some (.ol (xs.map T.int)), some (.fz (.int r)), o, o5, o6, o7]) sz [] [t0, t1, some (.ol []), some (.fz (.int rest)), none, o5, o6, o7] (by
      rintro p x post e hp ⟨xs, r, o, hd, rfl⟩
      have hp' : sz = p ++ x :: post := hp
      obtain ⟨h1, h2⟩ := hs x (by rw [hp']; simp)
      have hlx : xs.length < sizeLine := by
        have : xs.length ≤ sz.length := by rw [hd.length, hp']; simp
        exact Nat.lt_of_le_of_lt (Nat.le_trans this hl) (by decide)
      refine ⟨_, _, rfl, .inl ?_, xs ++ [r % x], r / x, some (.fz (.int x)), hd.snoc (Int.emod_nonneg _ (by omega)) (Int.emod_lt_of_pos _ h1), rfl⟩
      have hdf : dfit x = true := dfit_of 1000 (by omega)
      simp [mod_int h1, fdiv_int h1 hdf, hlx]) ⟨[], rest, none, trivial, rfl⟩
  obtain ⟨e, h1, xs, r, o, h2, rfl⟩ := hf
  exact ⟨xs, _, h2, rfl, h1⟩
/-- the loop of the second branch -/
theorem digitsB (d : Nat) (t0 : Option Sl) (g : Option Tag) (seed rest : Int) (sz : List Int) (h0 : 0 ≤ seed) (h1 : seed < 2147483648) (hs : ∀ s ∈ sz, 0 < s ∧ s < 2 ^ 1000) (hl : sz.length ≤ 1000) : ∃ (xs : List Int) (e : Fv), Digs xs sz ∧ e[2]? = some (some (.ol (xs.map T.int))) ∧
    S.turns (S.tName 6) (S.seq (S.asg 5 (P.bin T.mod (P.call (fun ts => .of (B.int ts)) (P.cons (P.bin T.add (P.bin T.add (P.bin T.mul (P.var d 5) (P.c (.int 48271))) (P.bin T.mul (P.c (.int 974711)) (P.var d 6))) (P.c (.int 12345))) P.nil)) (P.c (.int 2147483647))))
      (S.seq (S.asg 7 (P.bin T.mod (P.call (fun ts => .of (B.int ts)) (P.cons (P.bin T.mul (P.var d 5) (P.bin T.add (P.bin T.fdiv (P.var d 5) (P.c (.int 65537))) (P.c (.int 3)))) P.nil)) (P.c (.int 2147483629))))
      (S.app 2 (P.bin T.mod (P.call (fun ts => .of (B.int ts)) (P.cons (P.bin T.fdiv (P.var d 7) (P.c (.int 19))) P.nil)) (P.bin T.ix (P.var d 1) (P.var d 6)))))) (rng 0 sz.length)
      [t0, some (.fz (.lst g (sz.map T.int))), some (.ol []), some (.fz (.int rest)), none, some (.fz (.int seed)), none, none] = .nx e := by
  have hf := turns_pre (tg := S.tName 6) (body := S.seq (S.asg 5 (P.bin T.mod (P.call (fun ts => .of (B.int ts)) (P.cons (P.bin T.add (P.bin T.add (P.bin T.mul (P.var d 5) (P.c (.int 48271))) (P.bin T.mul (P.c (.int 974711)) (P.var d 6))) (P.c (.int 12345))) P.nil)) (P.c (.int 2147483647))))
      (S.seq (S.asg 7 (P.bin T.mod (P.call (fun ts => .of (B.int ts)) (P.cons (P.bin T.mul (P.var d 5) (P.bin T.add (P.bin T.fdiv (P.var d 5) (P.c (.int 65537))) (P.c (.int 3)))) P.nil)) (P.c (.int 2147483629))))
      (S.app 2 (P.bin T.mod (P.call (fun ts => .of (B.int ts)) (P.cons (P.bin T.fdiv (P.var d 7) (P.c (.int 19))) P.nil)) (P.bin T.ix (P.var d 1) (P.var d 6))))))
    (g := fun (k : Nat) => T.int (0 + (k : Int))) (R := fun p e => ∃ (xs : List Int) (s : Int) (o6 o7 : Option Sl), Digs xs (sz.take p.length) ∧ (0 ≤ s ∧ s < 2147483648) ∧ e = [t0, some (.fz (.lst g (sz.map T.int))), some (.ol (xs.map T.int)), some (.fz (.int rest)), none, some (.fz (.int s)), o6, o7]) (List.range sz.length) []
      [t0, some (.fz (.lst g (sz.map T.int))), some (.ol []), some (.fz (.int rest)), none, some (.fz (.int seed)), none, none] (by
      rintro p x post e hp ⟨xs, s, o6, o7, hd, ⟨s0, s1⟩, rfl⟩
      have hp' : List.range sz.length = p ++ x :: post := hp
      have hx := range_pre hp'
      obtain ⟨hx1, hx2⟩ := hx
      obtain ⟨k1, k2⟩ := hs sz[x] (List.getElem_mem hx2)
      have hlx : xs.length < sizeLine := by
        have : xs.length ≤ sz.length := by rw [hd.length, List.length_take]; omega
        exact Nat.lt_of_le_of_lt (Nat.le_trans this hl) (by decide)
      have ei : atI (sz.map T.int) ((x : Nat) : Int) = some (.int sz[x]) := by
        rw [atI_nat (by simpa using hx2), List.getElem?_map, List.getElem?_eq_getElem hx2]
        rfl
      have m1 : T.mul (.int s) (.int 48271) = some (.int (s * 48271)) := mul_small (nat_lt_big (by omega) (by omega)) (nat_lt_big (by omega) (by omega))
      have m2 : T.mul (.int 974711) (.int (x : Int)) = some (.int (974711 * (x : Int))) := mul_small (nat_lt_big (by omega) (by omega)) (nat_lt_big (by omega) (by omega))
      have b0 := Int.emod_nonneg (s * 48271 + 974711 * (x : Int) + 12345) (b := 2147483647) (by omega)
      have b1 := Int.emod_lt_of_pos (s * 48271 + 974711 * (x : Int) + 12345) (b := 2147483647) (by omega)
      have m3 : T.mul (.int ((s * 48271 + 974711 * (x : Int) + 12345) % 2147483647)) (.int ((s * 48271 + 974711 * (x : Int) + 12345) % 2147483647 / 65537 + 3)) = some (.int ((s * 48271 + 974711 * (x : Int) + 12345) % 2147483647 * ((s * 48271 + 974711 * (x : Int) + 12345) % 2147483647 / 65537 + 3))) := by
        generalize (s * 48271 + 974711 * (x : Int) + 12345) % 2147483647 = z at b0 b1
        exact mul_small (nat_lt_big (by omega) (by omega)) (nat_lt_big (by omega) (by omega))
      have d1 : dfit 65537 = true := rfl
      have d2 : dfit 19 = true := rfl
      refine ⟨_, _, rfl, .inl ?_, xs ++ [((s * 48271 + 974711 * (x : Int) + 12345) % 2147483647 * ((s * 48271 + 974711 * (x : Int) + 12345) % 2147483647 / 65537 + 3)) % 2147483629 / 19 % sz[x]], (s * 48271 + 974711 * (x : Int) + 12345) % 2147483647, some (.fz (.int (x : Int))), some (.fz (.int (((s * 48271 + 974711 * (x : Int) + 12345) % 2147483647 * ((s * 48271 + 974711 * (x : Int) + 12345) % 2147483647 / 65537 + 3)) % 2147483629))), ?_, ⟨b0, by omega⟩, rfl⟩
      · simp [mod_int, fdiv_int, m1, m2, m3, d1, d2, ei, k1, hlx]
      · rw [List.length_append, List.length_singleton, List.take_add_one, ← hx1, List.getElem?_eq_getElem hx2]
        exact (hx1 ▸ hd).snoc (Int.emod_nonneg _ (by omega)) (Int.emod_lt_of_pos _ k1)) ⟨[], seed, none, none, by simp [Digs], ⟨h0, h1⟩, rfl⟩
  obtain ⟨e, h2, xs, r, o, o', h3, _, rfl⟩ := hf
  refine ⟨xs, _, ?_, rfl, h2⟩
  simpa using h3
theorem digits_gen {pw : T → T → Option T} {a b k z : Int} (p1 : pw (.int 10) (.int 60) = some (.int a)) (p2 : T.mul (.int a) (.int a) = some (.int b)) (p3 : T.mul (.int b) (.int a) = some (.int k)) (p4 : pw (.int 10) (.int 18) = some (.int z)) (kpos : 0 < k) (d : Nat) (c : Int) (g : Option Tag) (sz : List Int) (hs : ∀ s ∈ sz, 0 < s ∧ s < 2 ^ 1000) (hl : sz.length ≤ 1000) : ∃ xs : List Int, Digs xs sz ∧ run 8 (LL.S_digitsG pw d) [.int c, .lst g (sz.map T.int)] = .ok (.lst none (xs.map T.int)) := by
  have e0 : ent 8 [.int c, .lst g (sz.map T.int)] = [some (.fz (.int c)), some (.fz (.lst g (sz.map T.int))), none, none, none, none, none, none] := rfl
  unfold run LL.S_digitsG
  rw [e0]
  by_cases h : z ≤ c % k
  · obtain ⟨xs, e, h1, h2, h3⟩ := digitsA d (some (.fz (.int c))) (some (.fz (.lst g (sz.map T.int)))) none none none (c % k - z) sz hs hl
    refine ⟨xs, h1, ?_⟩
    simp [p1, p2, p3, p4, mod_int kpos, h, lfit_ok, h3, h2, hide_set h2]
  · have q0 : 0 ≤ c % k % 2147483629 := Int.emod_nonneg (c % k) (by decide)
    have q1 : c % k % 2147483629 < 2147483629 := Int.emod_lt_of_pos (c % k) (by decide)
    have q2 : c % k % 2147483629 < 2147483648 := Int.lt_trans q1 (by decide)
    obtain ⟨xs, e, h1, h2, h3⟩ := digitsB d (some (.fz (.int c))) g (c % k % 2147483629) (c % k) sz q0 q2 hs hl
    refine ⟨xs, h1, ?_⟩
    have hr : rfit (sz.length : Int) = true := rfit_ok (by omega) (by omega)
    simp [p1, p2, p3, p4, mod_int, kpos, h, lfit_ok, hr, h3, h2, hide_set h2]
theorem digits_ev (d : Nat) (c : Int) (g : Option Tag) (sz : List Int) (hs : ∀ s ∈ sz, 0 < s ∧ s < 2 ^ 1000) (hl : sz.length ≤ 1000) : ∃ xs : List Int, Digs xs sz ∧ run 8 (LL.S_digits d) [.int c, .lst g (sz.map T.int)] = .ok (.lst none (xs.map T.int)) := by
  obtain ⟨a, b, k, z, p1, p2, p3, p4, kpos⟩ := tens
  exact digits_gen p1 p2 p3 p4 kpos d c g sz hs hl
end Py

set_option Elab.async false
set_option linter.all false
set_option maxRecDepth 100000
set_option maxHeartbeats 4000000
namespace Py
open PySem L2

/-! ### isinstance, errors, frames at entry -/
section
variable {α : Type} {i : Int} {b : Bool} {s : Str} {g : Option Tag} {ts : List T} {n : Nat} {env : Fv}
theorem ki1 : kitB "int" "int" = some true := by decide +kernel
theorem ki2 : kitB "int" "bool" = some false := by decide +kernel
theorem ki3 : kitB "int" "str" = some false := by decide +kernel
theorem ki4 : kitB "int" "list" = some false := by decide +kernel
theorem ki5 : kitB "int" "tuple" = some false := by decide +kernel
theorem kb1 : kitB "bool" "int" = some true := by decide +kernel
theorem kb2 : kitB "bool" "bool" = some true := by decide +kernel
theorem kb3 : kitB "bool" "str" = some false := by decide +kernel
theorem kb4 : kitB "bool" "list" = some false := by decide +kernel
theorem kb5 : kitB "bool" "tuple" = some false := by decide +kernel
theorem ks1 : kitB "str" "int" = some false := by decide +kernel
theorem ks2 : kitB "str" "bool" = some false := by decide +kernel
theorem ks3 : kitB "str" "str" = some true := by decide +kernel
theorem ks4 : kitB "str" "list" = some false := by decide +kernel
theorem ks5 : kitB "str" "tuple" = some false := by decide +kernel
theorem kl1 : kitB "list" "int" = some false := by decide +kernel
theorem kl2 : kitB "list" "bool" = some false := by decide +kernel
theorem kl3 : kitB "list" "str" = some false := by decide +kernel
theorem kl4 : kitB "list" "list" = some true := by decide +kernel
theorem kl5 : kitB "list" "tuple" = some false := by decide +kernel
theorem kt1 : kitB "tuple" "int" = some false := by decide +kernel
theorem kt2 : kitB "tuple" "bool" = some false := by decide +kernel
theorem kt3 : kitB "tuple" "str" = some false := by decide +kernel
theorem kt4 : kitB "tuple" "list" = some false := by decide +kernel
theorem kt5 : kitB "tuple" "tuple" = some true := by decide +kernel
theorem kn1 : kitB "NoneType" "int" = some false := by decide +kernel
theorem kn2 : kitB "NoneType" "bool" = some false := by decide +kernel
theorem kn3 : kitB "NoneType" "str" = some false := by decide +kernel
theorem kn4 : kitB "NoneType" "list" = some false := by decide +kernel
theorem kn5 : kitB "NoneType" "tuple" = some false := by decide +kernel
@[simp] theorem isi_int {c : String} : T.isi c (.int i) = (kitB "int" c).map .bl := nrfl rfl
@[simp] theorem isi_bl {c : String} : T.isi c (.bl b) = (kitB "bool" c).map .bl := nrfl rfl
@[simp] theorem isi_str {c : String} : T.isi c (.str s) = (kitB "str" c).map .bl := nrfl rfl
@[simp] theorem isi_non {c : String} : T.isi c .non = (kitB "NoneType" c).map .bl := nrfl rfl
@[simp] theorem isi_lst {c : String} : T.isi c (.lst g ts) = (kitB "list" c).map .bl := nrfl rfl
@[simp] theorem isi_tup {c : String} : T.isi c (.tup ts) = (kitB "tuple" c).map .bl := nrfl rfl
theorem isi_tab : kitB "int" "int" = some true ∧ kitB "int" "bool" = some false ∧ kitB "int" "str" = some false ∧ kitB "int" "list" = some false ∧ kitB "int" "tuple" = some false ∧ kitB "bool" "int" = some true ∧ kitB "bool" "bool" = some true ∧ kitB "bool" "str" = some false ∧ kitB "bool" "list" = some false ∧ kitB "bool" "tuple" = some false ∧
    kitB "str" "int" = some false ∧ kitB "str" "bool" = some false ∧ kitB "str" "str" = some true ∧ kitB "str" "list" = some false ∧ kitB "str" "tuple" = some false ∧ kitB "list" "int" = some false ∧ kitB "list" "bool" = some false ∧ kitB "list" "str" = some false ∧ kitB "list" "list" = some true ∧ kitB "list" "tuple" = some false ∧
    kitB "tuple" "int" = some false ∧ kitB "tuple" "bool" = some false ∧ kitB "tuple" "str" = some false ∧ kitB "tuple" "list" = some false ∧ kitB "tuple" "tuple" = some true ∧ kitB "NoneType" "int" = some false ∧ kitB "NoneType" "bool" = some false ∧ kitB "NoneType" "str" = some false ∧ kitB "NoneType" "list" = some false ∧ kitB "NoneType" "tuple" = some false :=
  ⟨ki1, ki2, ki3, ki4, ki5, kb1, kb2, kb3, kb4, kb5, ks1, ks2, ks3, ks4, ks5, kl1, kl2, kl3, kl4, kl5, kt1, kt2, kt3, kt4, kt5, kn1, kn2, kn3, kn4, kn5⟩
theorem ent_eq : ent n ts = ts.map (fun t => some (.fz t)) ++ List.replicate (n - ts.length) none := nrfl rfl
@[simp] theorem ev_raise {c : Nat} {ns : List Str} {a : P.Ax} : S.raise_ c ns a env = (a (hide env)).then_ env fun ts => if ts.length = ns.length ∧ ts.length ≤ 1000 then .er ⟨c, ns, ts.reverse⟩ env else .stuck := nrfl rfl
def tryK (tk : Nat → Option Bool) (i : Nat) (u : Sx) : RS → RS
  | .er e env1 => (match tk e.c with
    | some true => if i < env1.length then S.done i (u (env1.set i (some (.fz (.exn e.c e.ns e.ts))))) else .stuck
    | some false => .er e env1
    | none => .stuck)
  | r => r
@[simp] theorem ev_try {tk : Nat → Option Bool} {i : Nat} {s u : Sx} : S.try_ tk i s u env = tryK tk i u (s env) := nrfl rfl
@[simp] theorem tryK_nx {tk : Nat → Option Bool} {i : Nat} {u : Sx} : tryK tk i u (.nx env) = .nx env := nrfl rfl
@[simp] theorem tryK_rt {tk : Nat → Option Bool} {i : Nat} {u : Sx} {t : T} : tryK tk i u (.rt t) = .rt t := nrfl rfl
theorem tryK_er {tk : Nat → Option Bool} {i : Nat} {u : Sx} {e : Exn} (h : tk e.c = some true) : tryK tk i u (.er e env) = if i < env.length then S.done i (u (env.set i (some (.fz (.exn e.c e.ns e.ts))))) else .stuck := by
  simp only [tryK, h]
theorem tryK_erN {tk : Nat → Option Bool} {i : Nat} {u : Sx} {e : Exn} (h : tk e.c = some false) : tryK tk i u (.er e env) = .er e env := by
  simp only [tryK, h]
@[simp] theorem done_rt {i : Nat} {t : T} : S.done i (.rt t) = if noX t = true then .rt t else .stuck := nrfl rfl
@[simp] theorem done_nx {i : Nat} : S.done i (.nx env) = if (env.set i none).all noXS = true then .nx (env.set i none) else .stuck := nrfl rfl
@[simp] theorem done_ite {i : Nat} {z : Prop} [Decidable z] {x y : RS} : S.done i (if z then x else y) = if z then S.done i x else S.done i y := by split <;> rfl
@[simp] theorem isx_exn {tk : Nat → Option Bool} {c : Nat} {ns : List Str} : T.isx tk (.exn c ns ts) = (tk c).map .bl := nrfl rfl
@[simp] theorem xf_exn {c : Nat} {f : Str} {ns : List Str} : T.xf c f (.exn c ns ts) = (ns.zip ts).lookup f := nrfl (if_pos rfl)
theorem isA_bl {b c : Bool} : T.isA (.bl b) (.bl c) = some (.bl (decide (b = c) != false)) := nrfl rfl
theorem notA_bl {b c : Bool} : T.notA (.bl b) (.bl c) = some (.bl (decide (b = c) != true)) := nrfl rfl
end
end Py

set_option Elab.async false
set_option linter.all false
set_option maxRecDepth 100000
set_option maxHeartbeats 4000000
namespace Py
open PySem L2

/-! ### bits of whole numbers -/
abbrev nT (k : Nat) : T := .int (k : Int)
theorem bAnd (a b : Nat) : Builtin.bitAnd (a : Int) (b : Int) = ((a &&& b : Nat) : Int) := by
  unfold Builtin.bitAnd
  rw [decide_eq_true (Int.natCast_nonneg a), decide_eq_true (Int.natCast_nonneg b)]
  rfl
theorem bOr (a b : Nat) : Builtin.bitOr (a : Int) (b : Int) = ((a ||| b : Nat) : Int) := bitOr_nn (Int.natCast_nonneg a) (Int.natCast_nonneg b)
/-- a without b's bits -/
def nDiff (a b : Nat) : Nat := a - (a &&& b)
theorem bDiff (a b : Nat) : Builtin.bitAnd (a : Int) (Builtin.bitNot (b : Int)) = (nDiff a b : Int) := by
  have hb : ¬ (0 : Int) ≤ Builtin.bitNot (b : Int) := by
    show ¬ (0 : Int) ≤ -(b : Int) - 1
    omega
  have e : Builtin.bitNot (Builtin.bitNot (b : Int)) = (b : Int) := by
    show -(-(b : Int) - 1) - 1 = b
    omega
  unfold Builtin.bitAnd
  rw [decide_eq_true (Int.natCast_nonneg a), decide_eq_false hb]
  show (a : Int) - ((a &&& (Builtin.bitNot (Builtin.bitNot (b : Int))).toNat : Nat) : Int) = _
  rw [e]
  have h : a &&& b ≤ a := Nat.and_le_left
  unfold nDiff
  show (a : Int) - ((a &&& b : Nat) : Int) = _
  omega
/-- the number whose bits below n are p's -/
def sumB (p : Nat → Bool) : Nat → Nat
  | 0 => 0
  | n + 1 => sumB p n + if p n = true then 2 ^ n else 0
theorem sumB_succ (p : Nat → Bool) (n : Nat) : sumB p (n + 1) = sumB p n + if p n = true then 2 ^ n else 0 := rfl
theorem sumB_lt (p : Nat → Bool) : ∀ n, sumB p n < 2 ^ n
  | 0 => by simp [sumB]
  | n + 1 => by
    have := sumB_lt p n
    rw [Nat.pow_succ]
    unfold sumB
    split <;> omega
theorem sumB_bits (a : Nat) : ∀ n, sumB a.testBit n = a % 2 ^ n
  | 0 => by simp [sumB, Nat.mod_one]
  | n + 1 => by
    rw [Nat.pow_succ, Nat.mod_mul, ← sumB_bits a n, sumB_succ, Nat.testBit_eq_decide_div_mod_eq]
    have h := Nat.mod_lt (a / 2 ^ n) (y := 2) (by omega)
    by_cases c : a / 2 ^ n % 2 = 1
    · simp [c]
    · have c0 : a / 2 ^ n % 2 = 0 := by omega
      simp [c0]
theorem sumB_of {a n : Nat} (h : a < 2 ^ n) : sumB a.testBit n = a := by rw [sumB_bits, Nat.mod_eq_of_lt h]
theorem sumB_congr {p q : Nat → Bool} : ∀ {n : Nat}, (∀ k, k < n → p k = q k) → sumB p n = sumB q n
  | 0, _ => rfl
  | n + 1, h => by
    unfold sumB
    rw [sumB_congr (n := n) fun k hk => h k (by omega), h n (by omega)]
theorem sumB_split (p q : Nat → Bool) : ∀ n, sumB p n = sumB (fun k => p k && q k) n + sumB (fun k => p k && !q k) n
  | 0 => rfl
  | n + 1 => by
    unfold sumB
    rw [sumB_split p q n]
    cases p n <;> cases q n <;> simp <;> omega
theorem sumB_all : ∀ n, sumB (fun _ => true) n = 2 ^ n - 1
  | 0 => rfl
  | n + 1 => by
    unfold sumB
    rw [sumB_all n, Nat.pow_succ]
    have := Nat.two_pow_pos n
    simp
    omega
theorem sumB_zero {p : Nat → Bool} : ∀ {n : Nat}, sumB p n = 0 ↔ ∀ k, k < n → p k = false
  | 0 => by simp [sumB]
  | n + 1 => by
    unfold sumB
    have hp := Nat.two_pow_pos n
    constructor
    · intro h k hk
      have h1 : sumB p n = 0 := by omega
      have h2 : (if p n = true then 2 ^ n else 0) = 0 := by omega
      by_cases e : k = n
      · subst e
        cases q : p k
        · rfl
        · rw [q] at h2
          simp at h2
      · exact sumB_zero.mp h1 k (by omega)
    · intro h
      rw [sumB_zero.mpr fun k hk => h k (by omega), h n (by omega)]
      rfl
theorem sumB_full {p : Nat → Bool} {n : Nat} : sumB p n = 2 ^ n - 1 ↔ ∀ k, k < n → p k = true := by
  have h1 := sumB_split (fun _ => true) p n
  rw [sumB_all] at h1
  simp only [Bool.true_and] at h1
  have e : (sumB (fun k => p k) n) = sumB p n := rfl
  constructor
  · intro h k hk
    have h2 : sumB (fun k => !p k) n = 0 := by omega
    have := sumB_zero.mp h2 k hk
    simpa using this
  · intro h
    have h2 : sumB (fun k => !p k) n = 0 := sumB_zero.mpr fun k hk => by simp [h k hk]
    omega
theorem and_sum {a b n : Nat} (ha : a < 2 ^ n) : a &&& b = sumB (fun k => a.testBit k && b.testBit k) n := by
  rw [← sumB_of (Nat.lt_of_le_of_lt (Nat.and_le_left (n := a) (m := b)) ha)]
  exact sumB_congr fun k _ => Nat.testBit_and ..
theorem or_sum {a b n : Nat} (ha : a < 2 ^ n) (hb : b < 2 ^ n) : a ||| b = sumB (fun k => a.testBit k || b.testBit k) n := by
  rw [← sumB_of (Nat.or_lt_two_pow ha hb)]
  exact sumB_congr fun k _ => Nat.testBit_or ..
theorem diff_sum {a b n : Nat} (ha : a < 2 ^ n) : nDiff a b = sumB (fun k => a.testBit k && !b.testBit k) n := by
  unfold nDiff
  have h := sumB_split a.testBit b.testBit n
  rw [sumB_of ha, ← and_sum ha] at h
  omega
/-- the members of a lot -/
def mem (n a : Nat) : List Nat := (List.range n).filter a.testBit
theorem pow_sum (p : Nat → Bool) : ∀ n, (((List.range n).filter p).map fun k => 2 ^ k).sum = sumB p n
  | 0 => rfl
  | n + 1 => by
    rw [List.range_succ, List.filter_append, List.map_append, List.sum_append, pow_sum p n, sumB_succ]
    cases h : p n <;> simp [h]
end Py

set_option Elab.async false
set_option linter.all false
set_option maxRecDepth 100000
set_option maxHeartbeats 4000000
namespace Py
open PySem L2

/-! ### defs that many laws share -/
namespace LL
def S_bit (d : Nat) : Sx :=
  S.ret (P.bin T.mod (P.call (fun ts => .of (B.int ts)) (P.cons (P.bin T.fdiv (P.var d 0) (P.bin T.shl (P.c (.int 1)) (P.var d 1))) P.nil)) (P.c (.int 2)))
def f_bit (d : Nat) (ts : List T) : Res T := run 2 (S_bit d) ts
def S_members (d : Nat) : Sx :=
  S.ret (P.lc [2] (S.tName 2) (P.rng1 (P.cons (P.var d 1) P.nil)) (P.tb (P.bin T.eq (P.call (f_bit (d + 1)) (P.cons (P.var d 0) (P.cons (P.var d 2) P.nil))) (P.c (.int 1)))) (P.var d 2))
def f_members (d : Nat) (ts : List T) : Res T := run 3 (S_members d) ts
def S_whole (d : Nat) : Sx :=
  S.ret (P.andV (P.un (T.isi "int") (P.var d 0)) (P.notV (P.un (T.isi "bool") (P.var d 0))))
def f_whole (d : Nat) (ts : List T) : Res T := run 1 (S_whole d) ts
def S_lside (d : Nat) : Sx :=
  S.seq (S.ite (P.tb (P.bin T.eq (P.call (f_bit (d + 1)) (P.cons (P.var d 1) (P.cons (P.c (.int 0)) P.nil))) (P.c (.int 1))))
  (S.ret (P.bin T.sub (P.bin T.sub (P.bin T.shl (P.c (.int 1)) (P.var d 0)) (P.c (.int 1))) (P.var d 1)))
  S.skip)
  (S.ret (P.var d 1))
def f_lside (d : Nat) (ts : List T) : Res T := run 2 (S_lside d) ts
end LL
theorem bit_ev (d a k : Nat) (hk : k ≤ 1000) : LL.f_bit d [.int (a : Int), .int (k : Int)] = .ok (.int ((a.testBit k).toNat : Nat)) := by
  have hs := shl_one (j := (k : Int)) (by omega) (by omega)
  have hp : (0 : Int) < 2 ^ k := Int.pow_pos (by omega)
  have hd : dfit ((2 : Int) ^ k) = true := dfit_of (k + 1) (by
    have e : ((2 : Int) ^ k).natAbs = 2 ^ k := by rw [Int.natAbs_pow]; rfl
    rw [e]
    exact Nat.pow_lt_pow_right (by omega) (by omega)) (by omega) (by omega)
  have e : (a : Int) / 2 ^ k % 2 = (((a.testBit k).toNat : Nat) : Int) := by
    have e1 : (a : Int) / 2 ^ k % 2 = ((a / 2 ^ k % 2 : Nat) : Int) := by simp
    rw [e1, Nat.testBit_eq_decide_div_mod_eq]
    have h := Nat.mod_lt (a / 2 ^ k) (y := 2) (by omega)
    by_cases c : a / 2 ^ k % 2 = 1
    · simp [c]
    · have c0 : a / 2 ^ k % 2 = 0 := by omega
      simp [c0]
  simp [LL.f_bit, run_eq, ent_eq, LL.S_bit, hs, fdiv_int hp hd, mod_int, e]
theorem members_ev (d a n : Nat) (hn : n ≤ 1000) : LL.f_members d [.int (a : Int), .int (n : Int)] = .ok (.lst none ((mem n a).map nT)) := by
  have hr : rfit (n : Int) = true := rfit_ok (by omega) (by omega)
  have hl : (rng 0 n).length ≤ 1000000 := by simp [rng]; omega
  have e0 : rng 0 n = (List.range n).map fun (k : Nat) => T.int (0 + (k : Int)) := rfl
  have hc := turnsC_map (tg := S.tName 2) (b := P.tb (P.bin T.eq (P.call (LL.f_bit (d + 1)) (P.cons (P.var d 0) (P.cons (P.var d 2) P.nil))) (P.c (.int 1)))) (p := P.var d 2) (env := [some (.fz (.int (a : Int))), some (.fz (.int (n : Int))), none]) (g := fun (k : Nat) => T.int (0 + (k : Int))) (c := a.testBit) (f := nT) (List.range n) (fun k hk => by
    have hk' := List.mem_range.mp hk
    refine ⟨_, rfl, ?_, fun _ => ?_⟩
    · have hb := bit_ev (d + 1) a k (by omega)
      simp [hb]
      cases a.testBit k <;> simp
    · simp)
  rw [← e0] at hc
  simp [LL.f_members, run_eq, ent_eq, LL.S_members, hr, lfit_ok hl, hc, mem]
theorem whole_int (d : Nat) (i : Int) : LL.f_whole d [.int i] = .ok (.bl true) := by
  simp [LL.f_whole, run_eq, ent_eq, LL.S_whole, isi_tab]
theorem whole_bl (d : Nat) (b : Bool) : LL.f_whole d [.bl b] = .ok (.bl false) := by
  simp [LL.f_whole, run_eq, ent_eq, LL.S_whole, isi_tab]
theorem whole_str (d : Nat) (b : Str) : LL.f_whole d [.str b] = .ok (.bl false) := by
  simp [LL.f_whole, run_eq, ent_eq, LL.S_whole, isi_tab]
theorem whole_non (d : Nat) : LL.f_whole d [.non] = .ok (.bl false) := by
  simp [LL.f_whole, run_eq, ent_eq, LL.S_whole, isi_tab]
theorem whole_lst (d : Nat) (g : Option Tag) (ts : List T) : LL.f_whole d [.lst g ts] = .ok (.bl false) := by
  simp [LL.f_whole, run_eq, ent_eq, LL.S_whole, isi_tab]
theorem whole_tup (d : Nat) (ts : List T) : LL.f_whole d [.tup ts] = .ok (.bl false) := by
  simp [LL.f_whole, run_eq, ent_eq, LL.S_whole, isi_tab]
/-- one lot of the two that tell a side -/
def sideN (g a : Nat) : Nat := if a.testBit 0 = true then 2 ^ g - 1 - a else a
theorem lside_ev (d g a : Nat) (hg : g ≤ 1000) (ha : a < 2 ^ g) : LL.f_lside d [.int (g : Int), .int (a : Int)] = .ok (.int (sideN g a : Nat)) := by
  have hb := bit_ev (d + 1) a 0 (by omega)
  have hb' : LL.f_bit (d + 1) [.int (a : Int), .int 0] = .ok (.int ((a.testBit 0).toNat : Nat)) := hb
  have hs := shl_one (j := (g : Int)) (by omega) (by omega)
  have hp : ((2 ^ g : Nat) : Int) = 2 ^ g := by simp
  cases c : a.testBit 0 with
  | true =>
    rw [c] at hb'
    have e : (2 : Int) ^ g - 1 - (a : Int) = ((2 ^ g - 1 - a : Nat) : Int) := by omega
    simp [LL.f_lside, run_eq, ent_eq, LL.S_lside, hb', hs, sideN, c, e]
  | false =>
    rw [c] at hb'
    simp [LL.f_lside, run_eq, ent_eq, LL.S_lside, hb', hs, sideN, c]
/-! ### lists of whole numbers as data -/
theorem inV_nat (k : Nat) (l : List Nat) : T.isIn false (nT k) (.lst none (l.map nT)) = some (.bl (l.contains k)) ∧ T.isIn true (nT k) (.lst none (l.map nT)) = some (.bl (!l.contains k)) := by
  have e1 : ∀ l : List Nat, T.fvs (l.map nT) = some (l.map fun (x : Nat) => V.int (x : Int)) := fun l => by
    induction l with
    | nil => rfl
    | cons x l ih =>
      show (match T.fv (nT x), T.fvs (l.map nT) with | some v, some vs => some (v :: vs) | _, _ => none) = _
      rw [ih]
      rfl
  have e2 : inV (.int (k : Int)) (l.map fun (x : Nat) => V.int (x : Int)) = l.contains k := by
    unfold inV
    rw [List.any_map]
    induction l with
    | nil => rfl
    | cons x l ih =>
      rw [List.any_cons, ih, List.contains_cons]
      congr 1
      show ((x : Int) == (k : Int)) = (k == x)
      by_cases h : k = x
      · subst h
        rw [beq_self_eq_true, beq_self_eq_true]
      · have h2 : ¬ (x : Int) = (k : Int) := by omega
        rw [beq_eq_false_iff_ne.mpr h2, beq_eq_false_iff_ne.mpr h]
  constructor
  · simp only [T.isIn, T.fv, T.items, e1, e2, Bool.false_eq_true, if_false]
  · simp only [T.isIn, T.fv, T.items, e1, e2, if_true]
theorem sum_nat (l : List Nat) (g : Option Tag) : B.sum [.lst g (l.map nT)] = some (.int (l.sum : Nat)) := by
  have e1 : ∀ l : List Nat, B.nums (l.map nT) = some (l.map fun (x : Nat) => (x : Int)) := fun l => by
    induction l with
    | nil => rfl
    | cons x l ih =>
      show (match B.nums (l.map nT) with | some m => some ((x : Int) :: m) | none => none) = _
      rw [ih]
      rfl
  have e2 : (l.map fun (x : Nat) => (x : Int)).sum = ((l.sum : Nat) : Int) := by
    induction l with
    | nil => rfl
    | cons x l ih => simp [ih]
  show (match B.nums (l.map nT) with | some m => some (T.int m.sum) | none => none) = _
  rw [e1]
  show some (T.int _) = _
  rw [e2]
/-- two lists of whole numbers compared -/
theorem pds_nat (l : List Nat) : T.pds (l.map nT) = some (l.map fun (x : Nat) => PyData.int (x : Int)) := by
  induction l with
  | nil => rfl
  | cons x l ih =>
    show (match T.pd (nT x), T.pds (l.map nT) with | some d, some ds => some (d :: ds) | _, _ => none) = _
    rw [ih]
    rfl
theorem shaped_nat (l : List Nat) : SeqAt.shaped (.list (l.map fun (x : Nat) => PyData.int (x : Int))) = true := by
  have e1 : ∀ l : List Nat, PyData.canLayAll0 (l.map fun (x : Nat) => PyData.int (x : Int)) = true := fun l => by
    induction l with
    | nil => rfl
    | cons x l ih =>
      show (true && PyData.canLayAll0 (l.map fun (x : Nat) => PyData.int (x : Int))) = true
      rw [ih]
      rfl
  have e2 : ∀ l : List Nat, PyData.depthAll (l.map fun (x : Nat) => PyData.int (x : Int)) = 0 := fun l => by
    induction l with
    | nil => rfl
    | cons x l ih =>
      show max 0 (PyData.depthAll (l.map fun (x : Nat) => PyData.int (x : Int))) = 0
      rw [ih]
      rfl
  show (PyData.canLayAll0 (l.map fun (x : Nat) => PyData.int (x : Int)) && decide (PyData.depthAll (l.map fun (x : Nat) => PyData.int (x : Int)) + 1 ≤ 64)) = true
  rw [e1, e2]
  rfl
theorem eqv_nat (l m : List Nat) : PyData.eqvAll (l.map fun (x : Nat) => PyData.int (x : Int)) (m.map fun (x : Nat) => PyData.int (x : Int)) = (l == m) := by
  induction l generalizing m with
  | nil => cases m <;> rfl
  | cons x l ih =>
    cases m with
    | nil => rfl
    | cons y m =>
      show (((x : Int) == (y : Int)) && PyData.eqvAll _ _) = _
      rw [ih]
      show _ = ((x == y) && (l == m))
      congr 1
      by_cases h : x = y
      · subst h
        rw [beq_self_eq_true, beq_self_eq_true]
      · have h2 : ¬ (x : Int) = (y : Int) := by omega
        rw [beq_eq_false_iff_ne.mpr h2, beq_eq_false_iff_ne.mpr h]
theorem eq_nats (l m : List Nat) (g g' : Option Tag) : T.eq (.lst g (l.map nT)) (.lst g' (m.map nT)) = some (.bl (l == m)) := by
  show (match (T.pds (l.map nT)).map PyData.list, (T.pds (m.map nT)).map PyData.list with
    | some d, some e => if SeqAt.shaped d && SeqAt.shaped e then some (T.bl (PyData.eqv d e)) else none
    | _, _ => none) = _
  rw [pds_nat, pds_nat]
  show (if (SeqAt.shaped (.list _) && SeqAt.shaped (.list _)) = true then some (T.bl (PyData.eqvAll _ _)) else none) = _
  rw [shaped_nat, shaped_nat, eqv_nat]
  rfl
end Py

set_option Elab.async false
set_option linter.all false
set_option maxRecDepth 100000
set_option maxHeartbeats 4000000
namespace Lw
open PySem L2 PySem.Spec PyProof.Rows Evl Py
def top (i : Nat) : Stmt := PySem.Challenge.pw_fullsides_k31_uncrossed.main.body.getD i (.Pass ⟨0, 0, 0, 0⟩)
section
variable {cl : Cl} {Pr : Program} {w : World} {K : PySem.W.Frag} {mg : Str → Option Value} {base : Heap}

/-! ### _law_digits -/
abbrev s__law_digits : Stmt := top 49
theorem sc__law_digits : FnScope ["cell", "sizes", "found", "rest", "base", "seed", "k", "twice"] ["cell", "sizes"] (defScope s__law_digits) := ⟨rfl, rfl, rfl, by decide +kernel, rfl, by decide +kernel, by decide +kernel⟩
def S__law_digits (d : Nat) : Sx :=
  S.seq (S.new 2 (lfits P.nil))
  (S.seq (S.asg 3 (P.bin T.mod (P.call (fun ts => .of (B.int ts)) (P.cons (P.var d 0) P.nil)) (P.bin T.mul (P.bin T.mul (P.bin T.pow (P.c (.int 10)) (P.c (.int 60))) (P.bin T.pow (P.c (.int 10)) (P.c (.int 60)))) (P.bin T.pow (P.c (.int 10)) (P.c (.int 60))))))
  (S.seq (S.ite (P.tb (P.bin T.ge (P.var d 3) (P.bin T.pow (P.c (.int 10)) (P.c (.int 18)))))
  (S.seq (S.asg 3 (P.bin T.sub (P.var d 3) (P.bin T.pow (P.c (.int 10)) (P.c (.int 18)))))
  (S.seq (S.for_ (S.tName 4) (P.items (P.var d 1))
  (S.seq (S.app 2 (P.bin T.mod (P.call (fun ts => .of (B.int ts)) (P.cons (P.var d 3) P.nil)) (P.var d 4)))
  (S.asg 3 (P.bin T.fdiv (P.call (fun ts => .of (B.int ts)) (P.cons (P.var d 3) P.nil)) (P.var d 4)))))
  (S.frz 2 (S.ret (P.var d 2)))))
  S.skip)
  (S.seq (S.asg 5 (P.bin T.mod (P.call (fun ts => .of (B.int ts)) (P.cons (P.var d 3) P.nil)) (P.c (.int 2147483629))))
  (S.seq (S.forX (S.tName 6) (P.rng1 (P.cons (P.call (fun ts => .of (B.len ts)) (P.cons (P.var d 1) P.nil)) P.nil))
  (S.seq (S.asg 5 (P.bin T.mod (P.call (fun ts => .of (B.int ts)) (P.cons (P.bin T.add (P.bin T.add (P.bin T.mul (P.var d 5) (P.c (.int 48271))) (P.bin T.mul (P.c (.int 974711)) (P.var d 6))) (P.c (.int 12345))) P.nil)) (P.c (.int 2147483647))))
  (S.seq (S.asg 7 (P.bin T.mod (P.call (fun ts => .of (B.int ts)) (P.cons (P.bin T.mul (P.var d 5) (P.bin T.add (P.bin T.fdiv (P.var d 5) (P.c (.int 65537))) (P.c (.int 3)))) P.nil)) (P.c (.int 2147483629))))
  (S.app 2 (P.bin T.mod (P.call (fun ts => .of (B.int ts)) (P.cons (P.bin T.fdiv (P.var d 7) (P.c (.int 19))) P.nil)) (P.bin T.ix (P.var d 1) (P.var d 6)))))))
  (S.frz 2 (S.ret (P.var d 2)))))))
def f__law_digits (d : Nat) (ts : List T) : Res T := run 8 (S__law_digits d) ts
theorem ok__law_digits {fa : Addr} {fd : FuncData} (F : FnP K "_law_digits" s__law_digits fa fd) (hm : mg "_law_digits" = some (.ref fa)) (g_int : mg "int" = none) (g_len : mg "len" = none) (g_range : mg "range" = none) : Dok cl Pr w K mg base "_law_digits" 1 2 f__law_digits := by
  have hN : (["cell", "sizes", "found", "rest", "base", "seed", "k", "twice"] : List Str).Nodup := sc__law_digits.nd
  refine dok_of (N := ["cell", "sizes", "found", "rest", "base", "seed", "k", "twice"]) (ps := ["cell", "sizes"]) F sc__law_digits rfl (by decide) hm (fun _ _ => rfl) (fun _ _ _ _ _ _ us hl => match us, hl with | [_, _], _ => rfl) (fun d cdv A outer s H E hr => ?_)
  exact (db_cons (ds_new (i := 2) hN (dn_lst da_nil))
  (db_cons (ds_asg (i := 3) hN (de_op opD_mod (de_ty crd_int g_int (by decide +kernel) (da_cons (de_v 0) da_nil)) (de_op opD_mul (de_op opD_mul (de_op opD_pow de_int de_int) (de_op opD_pow de_int de_int)) (de_op opD_pow de_int de_int))))
  (db_cons (ds_if (dt_cmp opD_ge (de_v 3) (de_op opD_pow de_int de_int))
  (db_cons (ds_asg (i := 3) hN (de_op opD_sub (de_v 3) (de_op opD_pow de_int de_int)))
  (db_cons (ds_for po_of (di_seq (de_v 1)) (dg_name (i := 4) hN)
  (db_cons (ds_app (i := 2) (de_op opD_mod (de_ty crd_int g_int (by decide +kernel) (da_cons (de_v 3) da_nil)) (de_v 4)))
  (db_one (ds_asg (i := 3) hN (de_op opD_fdiv (de_ty crd_int g_int (by decide +kernel) (da_cons (de_v 3) da_nil)) (de_v 4))))))
  (db_one (ds_frz 2 (ds_ret (de_v 2))))))
  db_nil)
  (db_cons (ds_asg (i := 5) hN (de_op opD_mod (de_ty crd_int g_int (by decide +kernel) (da_cons (de_v 3) da_nil)) de_int))
  (db_cons (ds_forX po_of (dif_rng1 (da_cons (de_b crd_len g_len (by decide +kernel) (da_cons (de_v 1) da_nil)) da_nil) g_range) (dg_name (i := 6) hN)
  (db_cons (ds_asg (i := 5) hN (de_op opD_mod (de_ty crd_int g_int (by decide +kernel) (da_cons (de_op opD_add (de_op opD_add (de_op opD_mul (de_v 5) de_int) (de_op opD_mul de_int (de_v 6))) de_int) da_nil)) de_int))
  (db_cons (ds_asg (i := 7) hN (de_op opD_mod (de_ty crd_int g_int (by decide +kernel) (da_cons (de_op opD_mul (de_v 5) (de_op opD_add (de_op opD_fdiv (de_v 5) de_int) de_int)) da_nil)) de_int))
  (db_one (ds_app (i := 2) (de_op opD_mod (de_ty crd_int g_int (by decide +kernel) (da_cons (de_op opD_fdiv (de_v 7) de_int) da_nil)) (de_ix (de_v 1) (de_v 6))))))))
  (db_one (ds_frz 2 (ds_ret (de_v 2)))))))))
/-! ### _law_cell -/
abbrev s__law_cell : Stmt := top 48
theorem sc__law_cell : FnScope ["script", "k", "seed", "cell"] ["script", "k"] (defScope s__law_cell) := ⟨rfl, rfl, rfl, by decide +kernel, rfl, by decide +kernel, by decide +kernel⟩
def S__law_cell (d : Nat) : Sx :=
  S.seq (S.ite (P.tb (P.bin T.lt (P.var d 1) (P.call (fun ts => .of (B.len ts)) (P.cons (P.var d 0) P.nil))))
  (S.ret (P.call (fun ts => .of (B.int ts)) (P.cons (P.bin T.ix (P.var d 0) (P.var d 1)) P.nil)))
  S.skip)
  (S.seq (S.asg 2 (P.c (.int 7)))
  (S.seq (S.for_ (S.tName 3) (P.items (P.var d 0))
  (S.asg 2 (P.bin T.mod (P.call (fun ts => .of (B.int ts)) (P.cons (P.bin T.add (P.bin T.mul (P.var d 2) (P.c (.int 33))) (P.bin T.mod (P.call (fun ts => .of (B.int ts)) (P.cons (P.var d 3) P.nil)) (P.c (.int 999983)))) P.nil)) (P.c (.int 999983)))))
  (S.ret (P.bin T.mod (P.call (fun ts => .of (B.int ts)) (P.cons (P.bin T.mul (P.bin T.mul (P.bin T.add (P.var d 2) (P.c (.int 11))) (P.bin T.add (P.var d 1) (P.c (.int 5)))) (P.c (.int 48271))) P.nil)) (P.c (.int 2147483647))))))
def f__law_cell (d : Nat) (ts : List T) : Res T := run 4 (S__law_cell d) ts
theorem ok__law_cell {fa : Addr} {fd : FuncData} (F : FnP K "_law_cell" s__law_cell fa fd) (hm : mg "_law_cell" = some (.ref fa)) (g_int : mg "int" = none) (g_len : mg "len" = none) : Dok cl Pr w K mg base "_law_cell" 1 2 f__law_cell := by
  have hN : (["script", "k", "seed", "cell"] : List Str).Nodup := sc__law_cell.nd
  refine dok_of (N := ["script", "k", "seed", "cell"]) (ps := ["script", "k"]) F sc__law_cell rfl (by decide) hm (fun _ _ => rfl) (fun _ _ _ _ _ _ us hl => match us, hl with | [_, _], _ => rfl) (fun d cdv A outer s H E hr => ?_)
  exact (db_cons (ds_if (dt_cmp opD_lt (de_v 1) (de_b crd_len g_len (by decide +kernel) (da_cons (de_v 0) da_nil)))
  (db_one (ds_ret (de_ty crd_int g_int (by decide +kernel) (da_cons (de_ix (de_v 0) (de_v 1)) da_nil))))
  db_nil)
  (db_cons (ds_asg (i := 2) hN de_int)
  (db_cons (ds_for po_of (di_seq (de_v 0)) (dg_name (i := 3) hN)
  (db_one (ds_asg (i := 2) hN (de_op opD_mod (de_ty crd_int g_int (by decide +kernel) (da_cons (de_op opD_add (de_op opD_mul (de_v 2) de_int) (de_op opD_mod (de_ty crd_int g_int (by decide +kernel) (da_cons (de_v 3) da_nil)) de_int)) da_nil)) de_int))))
  (db_one (ds_ret (de_op opD_mod (de_ty crd_int g_int (by decide +kernel) (da_cons (de_op opD_mul (de_op opD_mul (de_op opD_add (de_v 2) de_int) (de_op opD_add (de_v 1) de_int)) de_int) da_nil)) de_int))))))
/-! ### _law_gates -/
abbrev s__law_gates : Stmt := top 54
theorem sc__law_gates : FnScope ["cell", "g", "kind", "row", "left", "allowed", "needed", "first", "second", "k", "gate", "corner"] ["cell", "g", "kind"] (defScope s__law_gates) := ⟨rfl, rfl, rfl, by decide +kernel, rfl, by decide +kernel, by decide +kernel⟩
def S__law_gates (d : Nat) : Sx :=
  S.seq (S.asg 3 (P.call (f__law_digits (d + 1)) (P.cons (P.var d 0) (P.cons (P.bin T.add (P.lst (P.cons (P.c (.int 6)) (P.cons (P.c (.int 5)) (P.cons (P.c (.int 4)) (P.cons (P.c (.int 3)) (P.cons (P.c (.int 2)) (P.cons (P.c (.int 1)) P.nil))))))) (P.bin T.mul (P.lst (P.cons (P.c (.int 12)) P.nil)) (P.c (.int 6)))) P.nil))))
  (S.seq (S.new 4 (P.comp [10] (S.tName 10) (P.rng1 (P.cons (P.var d 1) P.nil)) P.yes (P.var d 10)))
  (S.seq (S.asg 5 (P.bin T.ix (P.lst (P.cons (P.lst (P.cons (P.c (.int 0)) (P.cons (P.c (.int 1)) (P.cons (P.c (.int 3)) P.nil)))) (P.cons (P.lst (P.cons (P.c (.int 0)) (P.cons (P.c (.int 2)) (P.cons (P.c (.int 3)) P.nil)))) (P.cons (P.lst (P.cons (P.c (.int 0)) (P.cons (P.c (.int 3)) P.nil))) (P.cons (P.lst (P.cons (P.c (.int 0)) (P.cons (P.c (.int 1)) (P.cons (P.c (.int 2)) P.nil)))) (P.cons (P.lst (P.cons (P.c (.int 1)) (P.cons (P.c (.int 2)) (P.cons (P.c (.int 3)) P.nil)))) (P.cons (P.lst (P.cons (P.c (.int 1)) (P.cons (P.c (.int 2)) P.nil))) (P.cons (P.lst (P.cons (P.c (.int 0)) (P.cons (P.c (.int 1)) (P.cons (P.c (.int 2)) (P.cons (P.c (.int 3)) P.nil))))) (P.cons (P.lst (P.cons (P.c (.int 0)) (P.cons (P.c (.int 1)) (P.cons (P.c (.int 2)) (P.cons (P.c (.int 3)) P.nil))))) P.nil))))))))) (P.var d 2)))
  (S.seq (S.asg 6 (P.bin T.ix (P.lst (P.cons (P.lst (P.cons (P.c (.int 3)) (P.cons (P.c (.int 0)) (P.cons (P.c (.int 1)) P.nil)))) (P.cons (P.lst (P.cons (P.c (.int 3)) (P.cons (P.c (.int 0)) (P.cons (P.c (.int 2)) P.nil)))) (P.cons (P.lst (P.cons (P.c (.int 3)) (P.cons (P.c (.int 0)) P.nil))) (P.cons (P.lst (P.cons (P.c (.int 1)) (P.cons (P.c (.int 2)) (P.cons (P.c (.int 0)) P.nil)))) (P.cons (P.lst (P.cons (P.c (.int 1)) (P.cons (P.c (.int 2)) (P.cons (P.c (.int 3)) P.nil)))) (P.cons (P.lst (P.cons (P.c (.int 1)) (P.cons (P.c (.int 2)) P.nil))) (P.cons (P.lst (P.cons (P.c (.int 0)) (P.cons (P.c (.int 1)) (P.cons (P.c (.int 2)) (P.cons (P.c (.int 3)) P.nil))))) (P.cons (P.lst P.nil) P.nil))))))))) (P.var d 2)))
  (S.seq (S.asg 7 (P.c (.int 0)))
  (S.seq (S.asg 8 (P.c (.int 0)))
  (S.seq (S.forX (S.tName 9) (P.rng1 (P.cons (P.var d 1) P.nil))
  (S.seq (S.popAsg 4 10 (P.bin T.mod (P.call (fun ts => .of (B.int ts)) (P.cons (P.bin T.ix (P.var d 3) (P.var d 9)) P.nil)) (P.call (fun ts => .of (B.len ts)) (P.cons (P.var d 4) P.nil))))
  (S.seq (S.asg 11 (P.bin T.ix (P.var d 5) (P.bin T.mod (P.call (fun ts => .of (B.int ts)) (P.cons (P.bin T.ix (P.var d 3) (P.bin T.add (P.c (.int 6)) (P.var d 9))) P.nil)) (P.call (fun ts => .of (B.len ts)) (P.cons (P.var d 5) P.nil)))))
  (S.seq (S.ite (P.tb (P.bin T.lt (P.var d 9) (P.call (fun ts => .of (B.len ts)) (P.cons (P.var d 6) P.nil))))
  (S.asg 11 (P.bin T.ix (P.var d 6) (P.var d 9)))
  S.skip)
  (S.seq (S.asg 7 (P.bin T.add (P.var d 7) (P.bin T.shl (P.bin T.fdiv (P.var d 11) (P.c (.int 2))) (P.var d 10))))
  (S.asg 8 (P.bin T.add (P.var d 8) (P.bin T.shl (P.bin T.mod (P.call (fun ts => .of (B.int ts)) (P.cons (P.var d 11) P.nil)) (P.c (.int 2))) (P.var d 10)))))))))
  (S.ret (P.lst (P.cons (P.var d 7) (P.cons (P.var d 8) P.nil))))))))))
def f__law_gates (d : Nat) (ts : List T) : Res T := run 12 (S__law_gates d) ts
theorem ok__law_gates {fa : Addr} {fd : FuncData} (F : FnP K "_law_gates" s__law_gates fa fd) (hm : mg "_law_gates" = some (.ref fa)) (D__law_digits : Dok cl Pr w K mg base "_law_digits" 1 2 f__law_digits) (g_int : mg "int" = none) (g_len : mg "len" = none) (g_range : mg "range" = none) : Dok cl Pr w K mg base "_law_gates" 2 3 f__law_gates := by
  have hN : (["cell", "g", "kind", "row", "left", "allowed", "needed", "first", "second", "k", "gate", "corner"] : List Str).Nodup := sc__law_gates.nd
  refine dok_of (N := ["cell", "g", "kind", "row", "left", "allowed", "needed", "first", "second", "k", "gate", "corner"]) (ps := ["cell", "g", "kind"]) F sc__law_gates rfl (by decide) hm (fun _ _ => rfl) (fun _ _ _ _ _ _ us hl => match us, hl with | [_, _, _], _ => rfl) (fun d cdv A outer s H E hr => ?_)
  exact (db_cons (ds_asg (i := 3) hN (de_d D__law_digits (hr.mono (by decide)) (da_cons (de_v 0) (da_cons (de_op opD_add (de_lst (da_cons de_int (da_cons de_int (da_cons de_int (da_cons de_int (da_cons de_int (da_cons de_int da_nil))))))) (de_op opD_mul (de_lst (da_cons de_int da_nil)) de_int)) da_nil)) (n_cons (n_cons n_nil))))
  (db_cons (ds_newLc (i := 4) hN (DIF.di (dif_rng1 (da_cons (de_v 1) da_nil) g_range)) (blkOk_by (own := [("gate", 10)]) (by rfl)) (fun _ _ _ _ _ => dc_name (i := 10) (by decide) hN) (fun _ _ _ _ _ => dts_nil) (fun _ _ _ _ _ => de_v 10) (sw_true rfl rfl rfl (by decide +kernel)))
  (db_cons (ds_asg (i := 5) hN (de_ix (de_lst (da_cons (de_lst (da_cons de_int (da_cons de_int (da_cons de_int da_nil)))) (da_cons (de_lst (da_cons de_int (da_cons de_int (da_cons de_int da_nil)))) (da_cons (de_lst (da_cons de_int (da_cons de_int da_nil))) (da_cons (de_lst (da_cons de_int (da_cons de_int (da_cons de_int da_nil)))) (da_cons (de_lst (da_cons de_int (da_cons de_int (da_cons de_int da_nil)))) (da_cons (de_lst (da_cons de_int (da_cons de_int da_nil))) (da_cons (de_lst (da_cons de_int (da_cons de_int (da_cons de_int (da_cons de_int da_nil))))) (da_cons (de_lst (da_cons de_int (da_cons de_int (da_cons de_int (da_cons de_int da_nil))))) da_nil))))))))) (de_v 2)))
  (db_cons (ds_asg (i := 6) hN (de_ix (de_lst (da_cons (de_lst (da_cons de_int (da_cons de_int (da_cons de_int da_nil)))) (da_cons (de_lst (da_cons de_int (da_cons de_int (da_cons de_int da_nil)))) (da_cons (de_lst (da_cons de_int (da_cons de_int da_nil))) (da_cons (de_lst (da_cons de_int (da_cons de_int (da_cons de_int da_nil)))) (da_cons (de_lst (da_cons de_int (da_cons de_int (da_cons de_int da_nil)))) (da_cons (de_lst (da_cons de_int (da_cons de_int da_nil))) (da_cons (de_lst (da_cons de_int (da_cons de_int (da_cons de_int (da_cons de_int da_nil))))) (da_cons (de_lst da_nil) da_nil))))))))) (de_v 2)))
  (db_cons (ds_asg (i := 7) hN de_int)
  (db_cons (ds_asg (i := 8) hN de_int)
  (db_cons (ds_forX po_of (dif_rng1 (da_cons (de_v 1) da_nil) g_range) (dg_name (i := 9) hN)
  (db_cons (ds_popAsg (i := 4) (j := 10) (de_op opD_mod (de_ty crd_int g_int (by decide +kernel) (da_cons (de_ix (de_v 3) (de_v 9)) da_nil)) (de_b crd_len g_len (by decide +kernel) (da_cons (de_v 4) da_nil))) hN)
  (db_cons (ds_asg (i := 11) hN (de_ix (de_v 5) (de_op opD_mod (de_ty crd_int g_int (by decide +kernel) (da_cons (de_ix (de_v 3) (de_op opD_add de_int (de_v 9))) da_nil)) (de_b crd_len g_len (by decide +kernel) (da_cons (de_v 5) da_nil)))))
  (db_cons (ds_if (dt_cmp opD_lt (de_v 9) (de_b crd_len g_len (by decide +kernel) (da_cons (de_v 6) da_nil)))
  (db_one (ds_asg (i := 11) hN (de_ix (de_v 6) (de_v 9))))
  db_nil)
  (db_cons (ds_asg (i := 7) hN (de_op opD_add (de_v 7) (de_op opD_shl (de_op opD_fdiv (de_v 11) de_int) (de_v 10))))
  (db_one (ds_asg (i := 8) hN (de_op opD_add (de_v 8) (de_op opD_shl (de_op opD_mod (de_ty crd_int g_int (by decide +kernel) (da_cons (de_v 11) da_nil)) de_int) (de_v 10))))))))))
  (db_one (ds_ret (de_lst (da_cons (de_v 7) (da_cons (de_v 8) da_nil))))))))))))
/-! ### _law_inner -/
abbrev s__law_inner : Stmt := top 55
theorem sc__law_inner : FnScope ["cell", "g", "count", "row", "first", "second", "k"] ["cell", "g", "count"] (defScope s__law_inner) := ⟨rfl, rfl, rfl, by decide +kernel, rfl, by decide +kernel, by decide +kernel⟩
def S__law_inner (d : Nat) : Sx :=
  S.seq (S.asg 3 (P.call (f__law_digits (d + 1)) (P.cons (P.var d 0) (P.cons (P.bin T.mul (P.lst (P.cons (P.c (.int 4)) P.nil)) (P.var d 2)) P.nil))))
  (S.seq (S.asg 4 (P.c (.int 0)))
  (S.seq (S.asg 5 (P.c (.int 0)))
  (S.seq (S.forX (S.tName 6) (P.rng1 (P.cons (P.var d 2) P.nil))
  (S.seq (S.asg 4 (P.bin T.add (P.var d 4) (P.bin T.shl (P.bin T.fdiv (P.bin T.ix (P.var d 3) (P.var d 6)) (P.c (.int 2))) (P.bin T.add (P.var d 1) (P.var d 6)))))
  (S.asg 5 (P.bin T.add (P.var d 5) (P.bin T.shl (P.bin T.mod (P.call (fun ts => .of (B.int ts)) (P.cons (P.bin T.ix (P.var d 3) (P.var d 6)) P.nil)) (P.c (.int 2))) (P.bin T.add (P.var d 1) (P.var d 6)))))))
  (S.ret (P.lst (P.cons (P.var d 4) (P.cons (P.var d 5) P.nil)))))))
def f__law_inner (d : Nat) (ts : List T) : Res T := run 7 (S__law_inner d) ts
theorem ok__law_inner {fa : Addr} {fd : FuncData} (F : FnP K "_law_inner" s__law_inner fa fd) (hm : mg "_law_inner" = some (.ref fa)) (D__law_digits : Dok cl Pr w K mg base "_law_digits" 1 2 f__law_digits) (g_int : mg "int" = none) (g_range : mg "range" = none) : Dok cl Pr w K mg base "_law_inner" 2 3 f__law_inner := by
  have hN : (["cell", "g", "count", "row", "first", "second", "k"] : List Str).Nodup := sc__law_inner.nd
  refine dok_of (N := ["cell", "g", "count", "row", "first", "second", "k"]) (ps := ["cell", "g", "count"]) F sc__law_inner rfl (by decide) hm (fun _ _ => rfl) (fun _ _ _ _ _ _ us hl => match us, hl with | [_, _, _], _ => rfl) (fun d cdv A outer s H E hr => ?_)
  exact (db_cons (ds_asg (i := 3) hN (de_d D__law_digits (hr.mono (by decide)) (da_cons (de_v 0) (da_cons (de_op opD_mul (de_lst (da_cons de_int da_nil)) (de_v 2)) da_nil)) (n_cons (n_cons n_nil))))
  (db_cons (ds_asg (i := 4) hN de_int)
  (db_cons (ds_asg (i := 5) hN de_int)
  (db_cons (ds_forX po_of (dif_rng1 (da_cons (de_v 2) da_nil) g_range) (dg_name (i := 6) hN)
  (db_cons (ds_asg (i := 4) hN (de_op opD_add (de_v 4) (de_op opD_shl (de_op opD_fdiv (de_ix (de_v 3) (de_v 6)) de_int) (de_op opD_add (de_v 1) (de_v 6)))))
  (db_one (ds_asg (i := 5) hN (de_op opD_add (de_v 5) (de_op opD_shl (de_op opD_mod (de_ty crd_int g_int (by decide +kernel) (da_cons (de_ix (de_v 3) (de_v 6)) da_nil)) de_int) (de_op opD_add (de_v 1) (de_v 6))))))))
  (db_one (ds_ret (de_lst (da_cons (de_v 4) (da_cons (de_v 5) da_nil)))))))))
/-! ### _law_whole -/
abbrev s__law_whole : Stmt := top 47
theorem sc__law_whole : FnScope ["value"] ["value"] (defScope s__law_whole) := ⟨rfl, rfl, rfl, by decide +kernel, rfl, by decide +kernel, by decide +kernel⟩
def S__law_whole (d : Nat) : Sx :=
  S.ret (P.andV (P.un (T.isi "int") (P.var d 0)) (P.notV (P.un (T.isi "bool") (P.var d 0))))
def f__law_whole (d : Nat) (ts : List T) : Res T := run 1 (S__law_whole d) ts
theorem ok__law_whole {fa : Addr} {fd : FuncData} (F : FnP K "_law_whole" s__law_whole fa fd) (hm : mg "_law_whole" = some (.ref fa)) (g_bool : mg "bool" = none) (g_int : mg "int" = none) (g_isinstance : mg "isinstance" = none) : Dok cl Pr w K mg base "_law_whole" 1 1 f__law_whole := by
  have hN : (["value"] : List Str).Nodup := sc__law_whole.nd
  refine dok_of (N := ["value"]) (ps := ["value"]) F sc__law_whole rfl (by decide) hm (fun _ _ => rfl) (fun _ _ _ _ _ _ us hl => match us, hl with | [_], _ => rfl) (fun d cdv A outer s H E hr => ?_)
  exact (db_one (ds_ret (de_and (de_isi g_isinstance g_int (by decide +kernel) (de_v 0)) (de_one (de_not (de_isi g_isinstance g_bool (by decide +kernel) (de_v 0)))))))
/-! ### _law_bit -/
abbrev s__law_bit : Stmt := top 50
theorem sc__law_bit : FnScope ["lot", "number"] ["lot", "number"] (defScope s__law_bit) := ⟨rfl, rfl, rfl, by decide +kernel, rfl, by decide +kernel, by decide +kernel⟩
def S__law_bit (d : Nat) : Sx :=
  S.ret (P.bin T.mod (P.call (fun ts => .of (B.int ts)) (P.cons (P.bin T.fdiv (P.var d 0) (P.bin T.shl (P.c (.int 1)) (P.var d 1))) P.nil)) (P.c (.int 2)))
def f__law_bit (d : Nat) (ts : List T) : Res T := run 2 (S__law_bit d) ts
theorem ok__law_bit {fa : Addr} {fd : FuncData} (F : FnP K "_law_bit" s__law_bit fa fd) (hm : mg "_law_bit" = some (.ref fa)) (g_int : mg "int" = none) : Dok cl Pr w K mg base "_law_bit" 1 2 f__law_bit := by
  have hN : (["lot", "number"] : List Str).Nodup := sc__law_bit.nd
  refine dok_of (N := ["lot", "number"]) (ps := ["lot", "number"]) F sc__law_bit rfl (by decide) hm (fun _ _ => rfl) (fun _ _ _ _ _ _ us hl => match us, hl with | [_, _], _ => rfl) (fun d cdv A outer s H E hr => ?_)
  exact (db_one (ds_ret (de_op opD_mod (de_ty crd_int g_int (by decide +kernel) (da_cons (de_op opD_fdiv (de_v 0) (de_op opD_shl de_int (de_v 1))) da_nil)) de_int)))
/-! ### _law_members -/
abbrev s__law_members : Stmt := top 51
theorem sc__law_members : FnScope ["lot", "n", "k"] ["lot", "n"] (defScope s__law_members) := ⟨rfl, rfl, rfl, by decide +kernel, rfl, by decide +kernel, by decide +kernel⟩
def S__law_members (d : Nat) : Sx :=
  S.ret (P.lc [2] (S.tName 2) (P.rng1 (P.cons (P.var d 1) P.nil)) (P.tb (P.bin T.eq (P.call (f__law_bit (d + 1)) (P.cons (P.var d 0) (P.cons (P.var d 2) P.nil))) (P.c (.int 1)))) (P.var d 2))
def f__law_members (d : Nat) (ts : List T) : Res T := run 3 (S__law_members d) ts
theorem ok__law_members {fa : Addr} {fd : FuncData} (F : FnP K "_law_members" s__law_members fa fd) (hm : mg "_law_members" = some (.ref fa)) (D__law_bit : Dok cl Pr w K mg base "_law_bit" 1 2 f__law_bit) (g_range : mg "range" = none) : Dok cl Pr w K mg base "_law_members" 2 2 f__law_members := by
  have hN : (["lot", "n", "k"] : List Str).Nodup := sc__law_members.nd
  refine dok_of (N := ["lot", "n", "k"]) (ps := ["lot", "n"]) F sc__law_members rfl (by decide) hm (fun _ _ => rfl) (fun _ _ _ _ _ _ us hl => match us, hl with | [_, _], _ => rfl) (fun d cdv A outer s H E hr => ?_)
  exact (db_one (ds_ret (DN.de (dn_lc hN (DIF.di (dif_rng1 (da_cons (de_v 1) da_nil) g_range)) (blkOk_by (own := [("k", 2)]) (by rfl)) (fun _ _ _ _ _ => dc_name (i := 2) (by decide) hN) (fun _ _ _ _ _ => dts_one (dt_cmp (opD_eq hr.units) (de_d D__law_bit (hr.mono (by decide)) (da_cons (de_v 0) (da_cons (de_v 2) da_nil)) (n_cons (n_cons n_nil))) de_int)) (fun _ _ _ _ _ => de_v 2)))))
/-! ### _law_improper -/
abbrev s__law_improper : Stmt := top 56
theorem sc__law_improper : FnScope ["g", "lot", "gate"] ["g", "lot"] (defScope s__law_improper) := ⟨rfl, rfl, rfl, by decide +kernel, rfl, by decide +kernel, by decide +kernel⟩
def S__law_improper (d : Nat) : Sx :=
  S.seq (S.ite (P.or (P.not (P.tb (P.call (f__law_whole (d + 1)) (P.cons (P.var d 1) P.nil)))) (P.tb (P.bin T.lt (P.var d 1) (P.c (.int 0)))))
  (S.ret (P.c (.bl true)))
  S.skip)
  (S.ret (P.orV (P.bin T.eq (P.call (f__law_members (d + 1)) (P.cons (P.var d 1) (P.cons (P.var d 0) P.nil))) (P.lst P.nil)) (P.bin T.eq (P.call (f__law_members (d + 1)) (P.cons (P.var d 1) (P.cons (P.var d 0) P.nil))) (P.lc [2] (S.tName 2) (P.rng1 (P.cons (P.var d 0) P.nil)) P.yes (P.var d 2)))))
def f__law_improper (d : Nat) (ts : List T) : Res T := run 3 (S__law_improper d) ts
theorem ok__law_improper {fa : Addr} {fd : FuncData} (F : FnP K "_law_improper" s__law_improper fa fd) (hm : mg "_law_improper" = some (.ref fa)) (D__law_members : Dok cl Pr w K mg base "_law_members" 2 2 f__law_members) (D__law_whole : Dok cl Pr w K mg base "_law_whole" 1 1 f__law_whole) (g_range : mg "range" = none) : Dok cl Pr w K mg base "_law_improper" 3 2 f__law_improper := by
  have hN : (["g", "lot", "gate"] : List Str).Nodup := sc__law_improper.nd
  refine dok_of (N := ["g", "lot", "gate"]) (ps := ["g", "lot"]) F sc__law_improper rfl (by decide) hm (fun _ _ => rfl) (fun _ _ _ _ _ _ us hl => match us, hl with | [_, _], _ => rfl) (fun d cdv A outer s H E hr => ?_)
  exact (db_cons (ds_if (dt_w (dw_or (dt_not (dt_val (de_d D__law_whole (hr.mono (by decide)) (da_cons (de_v 1) da_nil) (n_cons n_nil)))) (dw_or1 (dt_cmp opD_lt (de_v 1) de_int))))
  (db_one (ds_ret de_bl))
  db_nil)
  (db_one (ds_ret (de_or (de_cmp (opD_eq hr.units) (de_d D__law_members (hr.mono (by decide)) (da_cons (de_v 1) (da_cons (de_v 0) da_nil)) (n_cons (n_cons n_nil))) (de_lst da_nil)) (de_one (de_cmp (opD_eq hr.units) (de_d D__law_members (hr.mono (by decide)) (da_cons (de_v 1) (da_cons (de_v 0) da_nil)) (n_cons (n_cons n_nil))) (DN.de (dn_lc hN (DIF.di (dif_rng1 (da_cons (de_v 0) da_nil) g_range)) (blkOk_by (own := [("gate", 2)]) (by rfl)) (fun _ _ _ _ _ => dc_name (i := 2) (by decide) hN) (fun _ _ _ _ _ => dts_nil) (fun _ _ _ _ _ => de_v 2)))))))))
/-! ### _law_cross -/
abbrev s__law_cross : Stmt := top 53
theorem sc__law_cross : FnScope ["g", "one", "two", "seen", "gate"] ["g", "one", "two"] (defScope s__law_cross) := ⟨rfl, rfl, rfl, by decide +kernel, rfl, by decide +kernel, by decide +kernel⟩
def S__law_cross (d : Nat) : Sx :=
  S.seq (S.new 3 (lfits (P.cons (P.c (.bl false)) (P.cons (P.c (.bl false)) (P.cons (P.c (.bl false)) (P.cons (P.c (.bl false)) P.nil))))))
  (S.seq (S.forX (S.tName 4) (P.rng1 (P.cons (P.var d 0) P.nil))
  (S.setX 3 (P.bin T.add (P.bin T.mul (P.c (.int 2)) (P.call (f__law_bit (d + 1)) (P.cons (P.var d 1) (P.cons (P.var d 4) P.nil)))) (P.call (f__law_bit (d + 1)) (P.cons (P.var d 2) (P.cons (P.var d 4) P.nil)))) (P.c (.bl true))))
  (S.retX (P.bin T.eq (P.var d 3) (P.lst (P.cons (P.c (.bl true)) (P.cons (P.c (.bl true)) (P.cons (P.c (.bl true)) (P.cons (P.c (.bl true)) P.nil))))))))
def f__law_cross (d : Nat) (ts : List T) : Res T := run 5 (S__law_cross d) ts
theorem ok__law_cross {fa : Addr} {fd : FuncData} (F : FnP K "_law_cross" s__law_cross fa fd) (hm : mg "_law_cross" = some (.ref fa)) (D__law_bit : Dok cl Pr w K mg base "_law_bit" 1 2 f__law_bit) (g_range : mg "range" = none) : Dok cl Pr w K mg base "_law_cross" 2 3 f__law_cross := by
  have hN : (["g", "one", "two", "seen", "gate"] : List Str).Nodup := sc__law_cross.nd
  refine dok_of (N := ["g", "one", "two", "seen", "gate"]) (ps := ["g", "one", "two"]) F sc__law_cross rfl (by decide) hm (fun _ _ => rfl) (fun _ _ _ _ _ _ us hl => match us, hl with | [_, _, _], _ => rfl) (fun d cdv A outer s H E hr => ?_)
  exact (db_cons (ds_new (i := 3) hN (dn_lst (da_cons de_bl (da_cons de_bl (da_cons de_bl (da_cons de_bl da_nil))))))
  (db_cons (ds_forX po_of (dif_rng1 (da_cons (de_v 0) da_nil) g_range) (dg_name (i := 4) hN)
  (db_one (ds_setX (i := 3) de_bl (de_op opD_add (de_op opD_mul de_int (de_d D__law_bit (hr.mono (by decide)) (da_cons (de_v 1) (da_cons (de_v 4) da_nil)) (n_cons (n_cons n_nil)))) (de_d D__law_bit (hr.mono (by decide)) (da_cons (de_v 2) (da_cons (de_v 4) da_nil)) (n_cons (n_cons n_nil)))))))
  (db_one (ds_retX (de_cmp (opD_eq hr.units) (de_v 3) (de_lst (da_cons de_bl (da_cons de_bl (da_cons de_bl (da_cons de_bl da_nil))))))))))
/-! ### _law_side -/
abbrev s__law_side : Stmt := top 52
theorem sc__law_side : FnScope ["g", "lot"] ["g", "lot"] (defScope s__law_side) := ⟨rfl, rfl, rfl, by decide +kernel, rfl, by decide +kernel, by decide +kernel⟩
def S__law_side (d : Nat) : Sx :=
  S.seq (S.ite (P.tb (P.bin T.eq (P.call (f__law_bit (d + 1)) (P.cons (P.var d 1) (P.cons (P.c (.int 0)) P.nil))) (P.c (.int 1))))
  (S.ret (P.bin T.sub (P.bin T.sub (P.bin T.shl (P.c (.int 1)) (P.var d 0)) (P.c (.int 1))) (P.var d 1)))
  S.skip)
  (S.ret (P.var d 1))
def f__law_side (d : Nat) (ts : List T) : Res T := run 2 (S__law_side d) ts
theorem ok__law_side {fa : Addr} {fd : FuncData} (F : FnP K "_law_side" s__law_side fa fd) (hm : mg "_law_side" = some (.ref fa)) (D__law_bit : Dok cl Pr w K mg base "_law_bit" 1 2 f__law_bit) : Dok cl Pr w K mg base "_law_side" 2 2 f__law_side := by
  have hN : (["g", "lot"] : List Str).Nodup := sc__law_side.nd
  refine dok_of (N := ["g", "lot"]) (ps := ["g", "lot"]) F sc__law_side rfl (by decide) hm (fun _ _ => rfl) (fun _ _ _ _ _ _ us hl => match us, hl with | [_, _], _ => rfl) (fun d cdv A outer s H E hr => ?_)
  exact (db_cons (ds_if (dt_cmp (opD_eq hr.units) (de_d D__law_bit (hr.mono (by decide)) (da_cons (de_v 1) (da_cons de_int da_nil)) (n_cons (n_cons n_nil))) de_int)
  (db_one (ds_ret (de_op opD_sub (de_op opD_sub (de_op opD_shl de_int (de_v 0)) de_int) (de_v 1))))
  db_nil)
  (db_one (ds_ret (de_v 1))))
/-! ### _law_due -/
abbrev s__law_due : Stmt := top 57
theorem sc__law_due : FnScope ["g", "one", "two", "first", "second", "left", "right", "common", "joint", "alone", "other", "gate", "number"] ["g", "one", "two"] (defScope s__law_due) := ⟨rfl, rfl, rfl, by decide +kernel, rfl, by decide +kernel, by decide +kernel⟩
def S__law_due (d : Nat) : Sx :=
  S.seq (S.ite (P.tb (P.call (f__law_improper (d + 1)) (P.cons (P.var d 0) (P.cons (P.var d 1) P.nil))))
  (S.ret (P.lst (P.cons (P.c (.str "BadLot")) (P.cons (P.var d 1) P.nil))))
  S.skip)
  (S.seq (S.ite (P.tb (P.call (f__law_improper (d + 1)) (P.cons (P.var d 0) (P.cons (P.var d 2) P.nil))))
  (S.ret (P.lst (P.cons (P.c (.str "BadLot")) (P.cons (P.var d 2) P.nil))))
  S.skip)
  (S.seq (S.asg 3 (P.call (f__law_members (d + 1)) (P.cons (P.var d 1) (P.cons (P.c (.int 66)) P.nil))))
  (S.seq (S.asg 4 (P.call (f__law_members (d + 1)) (P.cons (P.var d 2) (P.cons (P.c (.int 66)) P.nil))))
  (S.seq (S.asg 5 (P.lc [11] (S.tName 11) (P.items (P.var d 3)) (P.tb (P.bin T.lt (P.var d 11) (P.var d 0))) (P.var d 11)))
  (S.seq (S.asg 6 (P.lc [11] (S.tName 11) (P.items (P.var d 4)) (P.tb (P.bin T.lt (P.var d 11) (P.var d 0))) (P.var d 11)))
  (S.seq (S.ite (P.tb (P.call (f__law_cross (d + 1)) (P.cons (P.var d 0) (P.cons (P.var d 1) (P.cons (P.var d 2) P.nil)))))
  (S.ret (P.lst (P.cons (P.c (.str "TwoCross")) (P.cons (P.tup (P.cons (P.call (f__law_side (d + 1)) (P.cons (P.var d 0) (P.cons (P.call (fun ts => .of (B.sum ts)) (P.cons (P.lc [11] (S.tName 11) (P.items (P.var d 5)) P.yes (P.bin T.shl (P.c (.int 1)) (P.var d 11))) P.nil)) P.nil))) (P.cons (P.call (f__law_side (d + 1)) (P.cons (P.var d 0) (P.cons (P.call (fun ts => .of (B.sum ts)) (P.cons (P.lc [11] (S.tName 11) (P.items (P.var d 6)) P.yes (P.bin T.shl (P.c (.int 1)) (P.var d 11))) P.nil)) P.nil))) P.nil))) P.nil))))
  S.skip)
  (S.seq (S.ite (P.or (P.tb (P.bin T.eq (P.lc [11] (S.tName 11) (P.items (P.var d 5)) (P.tb (P.bin (T.isIn true) (P.var d 11) (P.var d 6))) (P.var d 11)) (P.lst P.nil))) (P.tb (P.bin T.eq (P.lc [11] (S.tName 11) (P.items (P.var d 6)) (P.tb (P.bin (T.isIn true) (P.var d 11) (P.var d 5))) (P.var d 11)) (P.lst P.nil))))
  (S.seq (S.asg 7 (P.lc [12] (S.tName 12) (P.items (P.var d 3)) (P.tb (P.bin (T.isIn false) (P.var d 12) (P.var d 4))) (P.var d 12)))
  (S.seq (S.asg 8 (P.lc [12] (S.tName 12) (P.rng1 (P.cons (P.c (.int 66)) P.nil)) (P.or (P.tb (P.bin (T.isIn false) (P.var d 12) (P.var d 3))) (P.tb (P.bin (T.isIn false) (P.var d 12) (P.var d 4)))) (P.var d 12)))
  (S.ret (P.lst (P.cons (P.c (.str "told")) (P.cons (P.tup (P.cons (P.call (fun ts => .of (B.sum ts)) (P.cons (P.lc [12] (S.tName 12) (P.items (P.var d 7)) P.yes (P.bin T.shl (P.c (.int 1)) (P.var d 12))) P.nil)) (P.cons (P.call (fun ts => .of (B.sum ts)) (P.cons (P.lc [12] (S.tName 12) (P.items (P.var d 8)) P.yes (P.bin T.shl (P.c (.int 1)) (P.var d 12))) P.nil)) P.nil))) P.nil))))))
  S.skip)
  (S.seq (S.asg 9 (P.lc [12] (S.tName 12) (P.items (P.var d 3)) (P.tb (P.bin (T.isIn true) (P.var d 12) (P.var d 4))) (P.var d 12)))
  (S.seq (S.asg 10 (P.lc [12] (S.tName 12) (P.items (P.var d 4)) (P.tb (P.bin (T.isIn true) (P.var d 12) (P.var d 3))) (P.var d 12)))
  (S.ret (P.lst (P.cons (P.c (.str "told")) (P.cons (P.tup (P.cons (P.call (fun ts => .of (B.sum ts)) (P.cons (P.lc [12] (S.tName 12) (P.items (P.var d 9)) P.yes (P.bin T.shl (P.c (.int 1)) (P.var d 12))) P.nil)) (P.cons (P.call (fun ts => .of (B.sum ts)) (P.cons (P.lc [12] (S.tName 12) (P.items (P.var d 10)) P.yes (P.bin T.shl (P.c (.int 1)) (P.var d 12))) P.nil)) P.nil))) P.nil)))))))))))))
def f__law_due (d : Nat) (ts : List T) : Res T := run 13 (S__law_due d) ts
theorem ok__law_due {fa : Addr} {fd : FuncData} (F : FnP K "_law_due" s__law_due fa fd) (hm : mg "_law_due" = some (.ref fa)) (D__law_cross : Dok cl Pr w K mg base "_law_cross" 2 3 f__law_cross) (D__law_improper : Dok cl Pr w K mg base "_law_improper" 3 2 f__law_improper) (D__law_members : Dok cl Pr w K mg base "_law_members" 2 2 f__law_members) (D__law_side : Dok cl Pr w K mg base "_law_side" 2 2 f__law_side) (g_range : mg "range" = none) (g_sum : mg "sum" = none) : Dok cl Pr w K mg base "_law_due" 4 3 f__law_due := by
  have hN : (["g", "one", "two", "first", "second", "left", "right", "common", "joint", "alone", "other", "gate", "number"] : List Str).Nodup := sc__law_due.nd
  refine dok_of (N := ["g", "one", "two", "first", "second", "left", "right", "common", "joint", "alone", "other", "gate", "number"]) (ps := ["g", "one", "two"]) F sc__law_due rfl (by decide) hm (fun _ _ => rfl) (fun _ _ _ _ _ _ us hl => match us, hl with | [_, _, _], _ => rfl) (fun d cdv A outer s H E hr => ?_)
  exact (db_cons (ds_if (dt_val (de_d D__law_improper (hr.mono (by decide)) (da_cons (de_v 0) (da_cons (de_v 1) da_nil)) (n_cons (n_cons n_nil))))
  (db_one (ds_ret (de_lst (da_cons de_str (da_cons (de_v 1) da_nil)))))
  db_nil)
  (db_cons (ds_if (dt_val (de_d D__law_improper (hr.mono (by decide)) (da_cons (de_v 0) (da_cons (de_v 2) da_nil)) (n_cons (n_cons n_nil))))
  (db_one (ds_ret (de_lst (da_cons de_str (da_cons (de_v 2) da_nil)))))
  db_nil)
  (db_cons (ds_asg (i := 3) hN (de_d D__law_members (hr.mono (by decide)) (da_cons (de_v 1) (da_cons de_int da_nil)) (n_cons (n_cons n_nil))))
  (db_cons (ds_asg (i := 4) hN (de_d D__law_members (hr.mono (by decide)) (da_cons (de_v 2) (da_cons de_int da_nil)) (n_cons (n_cons n_nil))))
  (db_cons (ds_asg (i := 5) hN (DN.de (dn_lc hN (di_seq (de_v 3)) (blkOk_by (own := [("gate", 11)]) (by rfl)) (fun _ _ _ _ _ => dc_name (i := 11) (by decide) hN) (fun _ _ _ _ _ => dts_one (dt_cmp opD_lt (de_v 11) (de_v 0))) (fun _ _ _ _ _ => de_v 11))))
  (db_cons (ds_asg (i := 6) hN (DN.de (dn_lc hN (di_seq (de_v 4)) (blkOk_by (own := [("gate", 11)]) (by rfl)) (fun _ _ _ _ _ => dc_name (i := 11) (by decide) hN) (fun _ _ _ _ _ => dts_one (dt_cmp opD_lt (de_v 11) (de_v 0))) (fun _ _ _ _ _ => de_v 11))))
  (db_cons (ds_if (dt_val (de_d D__law_cross (hr.mono (by decide)) (da_cons (de_v 0) (da_cons (de_v 1) (da_cons (de_v 2) da_nil))) (n_cons (n_cons (n_cons n_nil)))))
  (db_one (ds_ret (de_lst (da_cons de_str (da_cons (de_tup (da_cons (de_d D__law_side (hr.mono (by decide)) (da_cons (de_v 0) (da_cons (de_b (crd_sum rfl) g_sum (by decide +kernel) (da_cons (DN.de (dn_lc hN (di_seq (de_v 5)) (blkOk_by (own := [("gate", 11)]) (by rfl)) (fun _ _ _ _ _ => dc_name (i := 11) (by decide) hN) (fun _ _ _ _ _ => dts_nil) (fun _ _ _ _ _ => de_op opD_shl de_int (de_v 11)))) da_nil)) da_nil)) (n_cons (n_cons n_nil))) (da_cons (de_d D__law_side (hr.mono (by decide)) (da_cons (de_v 0) (da_cons (de_b (crd_sum rfl) g_sum (by decide +kernel) (da_cons (DN.de (dn_lc hN (di_seq (de_v 6)) (blkOk_by (own := [("gate", 11)]) (by rfl)) (fun _ _ _ _ _ => dc_name (i := 11) (by decide) hN) (fun _ _ _ _ _ => dts_nil) (fun _ _ _ _ _ => de_op opD_shl de_int (de_v 11)))) da_nil)) da_nil)) (n_cons (n_cons n_nil))) da_nil))) da_nil)))))
  db_nil)
  (db_cons (ds_if (dt_w (dw_or (dt_cmp (opD_eq hr.units) (DN.de (dn_lc hN (di_seq (de_v 5)) (blkOk_by (own := [("gate", 11)]) (by rfl)) (fun _ _ _ _ _ => dc_name (i := 11) (by decide) hN) (fun _ _ _ _ _ => dts_one (dt_cmp opD_notIn (de_v 11) (de_v 6))) (fun _ _ _ _ _ => de_v 11))) (de_lst da_nil)) (dw_or1 (dt_cmp (opD_eq hr.units) (DN.de (dn_lc hN (di_seq (de_v 6)) (blkOk_by (own := [("gate", 11)]) (by rfl)) (fun _ _ _ _ _ => dc_name (i := 11) (by decide) hN) (fun _ _ _ _ _ => dts_one (dt_cmp opD_notIn (de_v 11) (de_v 5))) (fun _ _ _ _ _ => de_v 11))) (de_lst da_nil)))))
  (db_cons (ds_asgLc (i := 7) hN (di_seq (de_v 3)) (blkOk_by (own := [("number", 12)]) (by rfl)) (fun _ _ _ _ _ => dc_name (i := 12) (by decide) hN) (fun _ _ _ _ _ => dts_one (dt_cmp opD_in (de_v 12) (de_v 4))) (fun _ _ _ _ _ => de_v 12) (sw_true rfl rfl rfl (by decide +kernel)))
  (db_cons (ds_asgLc (i := 8) hN (DIF.di (dif_rng1 (da_cons de_int da_nil) g_range)) (blkOk_by (own := [("number", 12)]) (by rfl)) (fun _ _ _ _ _ => dc_name (i := 12) (by decide) hN) (fun _ _ _ _ _ => dts_one (dt_w (dw_or (dt_cmp opD_in (de_v 12) (de_v 3)) (dw_or1 (dt_cmp opD_in (de_v 12) (de_v 4)))))) (fun _ _ _ _ _ => de_v 12) (sw_true rfl rfl rfl (by decide +kernel)))
  (db_one (ds_ret (de_lst (da_cons de_str (da_cons (de_tup (da_cons (de_b (crd_sum rfl) g_sum (by decide +kernel) (da_cons (DN.de (dn_lc hN (di_seq (de_v 7)) (blkOk_by (own := [("number", 12)]) (by rfl)) (fun _ _ _ _ _ => dc_name (i := 12) (by decide) hN) (fun _ _ _ _ _ => dts_nil) (fun _ _ _ _ _ => de_op opD_shl de_int (de_v 12)))) da_nil)) (da_cons (de_b (crd_sum rfl) g_sum (by decide +kernel) (da_cons (DN.de (dn_lc hN (di_seq (de_v 8)) (blkOk_by (own := [("number", 12)]) (by rfl)) (fun _ _ _ _ _ => dc_name (i := 12) (by decide) hN) (fun _ _ _ _ _ => dts_nil) (fun _ _ _ _ _ => de_op opD_shl de_int (de_v 12)))) da_nil)) da_nil))) da_nil)))))))
  db_nil)
  (db_cons (ds_asgLc (i := 9) hN (di_seq (de_v 3)) (blkOk_by (own := [("number", 12)]) (by rfl)) (fun _ _ _ _ _ => dc_name (i := 12) (by decide) hN) (fun _ _ _ _ _ => dts_one (dt_cmp opD_notIn (de_v 12) (de_v 4))) (fun _ _ _ _ _ => de_v 12) (sw_true rfl rfl rfl (by decide +kernel)))
  (db_cons (ds_asgLc (i := 10) hN (di_seq (de_v 4)) (blkOk_by (own := [("number", 12)]) (by rfl)) (fun _ _ _ _ _ => dc_name (i := 12) (by decide) hN) (fun _ _ _ _ _ => dts_one (dt_cmp opD_notIn (de_v 12) (de_v 3))) (fun _ _ _ _ _ => de_v 12) (sw_true rfl rfl rfl (by decide +kernel)))
  (db_one (ds_ret (de_lst (da_cons de_str (da_cons (de_tup (da_cons (de_b (crd_sum rfl) g_sum (by decide +kernel) (da_cons (DN.de (dn_lc hN (di_seq (de_v 9)) (blkOk_by (own := [("number", 12)]) (by rfl)) (fun _ _ _ _ _ => dc_name (i := 12) (by decide) hN) (fun _ _ _ _ _ => dts_nil) (fun _ _ _ _ _ => de_op opD_shl de_int (de_v 12)))) da_nil)) (da_cons (de_b (crd_sum rfl) g_sum (by decide +kernel) (da_cons (DN.de (dn_lc hN (di_seq (de_v 10)) (blkOk_by (own := [("number", 12)]) (by rfl)) (fun _ _ _ _ _ => dc_name (i := 12) (by decide) hN) (fun _ _ _ _ _ => dts_nil) (fun _ _ _ _ _ => de_op opD_shl de_int (de_v 12)))) da_nil)) da_nil))) da_nil)))))))))))))))
/-! ### is_whole -/
abbrev s_is_whole : Stmt := top 38
theorem sc_is_whole : FnScope ["value"] ["value"] (defScope s_is_whole) := ⟨rfl, rfl, rfl, by decide +kernel, rfl, by decide +kernel, by decide +kernel⟩
def S_is_whole (d : Nat) : Sx :=
  S.ret (P.andV (P.un (T.isi "int") (P.var d 0)) (P.notV (P.un (T.isi "bool") (P.var d 0))))
def f_is_whole (d : Nat) (ts : List T) : Res T := run 1 (S_is_whole d) ts
theorem ok_is_whole {fa : Addr} {fd : FuncData} (F : FnP K "is_whole" s_is_whole fa fd) (hm : mg "is_whole" = some (.ref fa)) (g_bool : mg "bool" = none) (g_int : mg "int" = none) (g_isinstance : mg "isinstance" = none) : Dok cl Pr w K mg base "is_whole" 1 1 f_is_whole := by
  have hN : (["value"] : List Str).Nodup := sc_is_whole.nd
  refine dok_of (N := ["value"]) (ps := ["value"]) F sc_is_whole rfl (by decide) hm (fun _ _ => rfl) (fun _ _ _ _ _ _ us hl => match us, hl with | [_], _ => rfl) (fun d cdv A outer s H E hr => ?_)
  exact (db_one (ds_ret (de_and (de_isi g_isinstance g_int (by decide +kernel) (de_v 0)) (de_one (de_not (de_isi g_isinstance g_bool (by decide +kernel) (de_v 0)))))))
/-! ### is_lot -/
abbrev s_is_lot : Stmt := top 39
theorem sc_is_lot : FnScope ["value"] ["value"] (defScope s_is_lot) := ⟨rfl, rfl, rfl, by decide +kernel, rfl, by decide +kernel, by decide +kernel⟩
def S_is_lot (d : Nat) : Sx :=
  S.ret (P.andV (P.call (f_is_whole (d + 1)) (P.cons (P.var d 0) P.nil)) (P.bin T.ge (P.var d 0) (P.c (.int 0))))
def f_is_lot (d : Nat) (ts : List T) : Res T := run 1 (S_is_lot d) ts
theorem ok_is_lot {fa : Addr} {fd : FuncData} (F : FnP K "is_lot" s_is_lot fa fd) (hm : mg "is_lot" = some (.ref fa)) (D_is_whole : Dok cl Pr w K mg base "is_whole" 1 1 f_is_whole) : Dok cl Pr w K mg base "is_lot" 2 1 f_is_lot := by
  have hN : (["value"] : List Str).Nodup := sc_is_lot.nd
  refine dok_of (N := ["value"]) (ps := ["value"]) F sc_is_lot rfl (by decide) hm (fun _ _ => rfl) (fun _ _ _ _ _ _ us hl => match us, hl with | [_], _ => rfl) (fun d cdv A outer s H E hr => ?_)
  exact (db_one (ds_ret (de_and (de_d D_is_whole (hr.mono (by decide)) (da_cons (de_v 0) da_nil) (n_cons n_nil)) (de_one (de_cmp opD_ge (de_v 0) de_int)))))
/-! ### is_side_lot -/
abbrev s_is_side_lot : Stmt := top 41
theorem sc_is_side_lot : FnScope ["many", "lot"] ["many", "lot"] (defScope s_is_side_lot) := ⟨rfl, rfl, rfl, by decide +kernel, rfl, by decide +kernel, by decide +kernel⟩
def S_is_side_lot (d : Nat) : Sx :=
  S.ret (P.andV (P.call (f_is_whole (d + 1)) (P.cons (P.var d 1) P.nil)) (P.chain T.lt T.lt (P.c (.int 0)) (P.var d 1) (P.bin T.sub (P.bin T.shl (P.c (.int 1)) (P.var d 0)) (P.c (.int 1)))))
def f_is_side_lot (d : Nat) (ts : List T) : Res T := run 2 (S_is_side_lot d) ts
theorem ok_is_side_lot {fa : Addr} {fd : FuncData} (F : FnP K "is_side_lot" s_is_side_lot fa fd) (hm : mg "is_side_lot" = some (.ref fa)) (D_is_whole : Dok cl Pr w K mg base "is_whole" 1 1 f_is_whole) : Dok cl Pr w K mg base "is_side_lot" 2 2 f_is_side_lot := by
  have hN : (["many", "lot"] : List Str).Nodup := sc_is_side_lot.nd
  refine dok_of (N := ["many", "lot"]) (ps := ["many", "lot"]) F sc_is_side_lot rfl (by decide) hm (fun _ _ => rfl) (fun _ _ _ _ _ _ us hl => match us, hl with | [_, _], _ => rfl) (fun d cdv A outer s H E hr => ?_)
  exact (db_one (ds_ret (de_and (de_d D_is_whole (hr.mono (by decide)) (da_cons (de_v 1) da_nil) (n_cons n_nil)) (de_one (de_chain opD_lt opD_lt de_int (de_v 1) (de_op opD_sub (de_op opD_shl de_int (de_v 0)) de_int))))))
/-! ### sides_cross -/
abbrev s_sides_cross : Stmt := top 43
theorem sc_sides_cross : FnScope ["many", "one", "two", "outside"] ["many", "one", "two"] (defScope s_sides_cross) := ⟨rfl, rfl, rfl, by decide +kernel, rfl, by decide +kernel, by decide +kernel⟩
def S_sides_cross (d : Nat) : Sx :=
  S.seq (S.asg 3 (P.bin T.sub (P.bin T.sub (P.bin T.shl (P.c (.int 1)) (P.var d 0)) (P.c (.int 1))) (P.bin T.bor (P.var d 1) (P.var d 2))))
  (S.ret (P.andV (P.bin T.ne (P.bin T.band (P.var d 1) (P.var d 2)) (P.c (.int 0))) (P.andV (P.bin T.ne (P.bin T.band (P.var d 1) (P.un T.inv (P.var d 2))) (P.c (.int 0))) (P.andV (P.bin T.ne (P.bin T.band (P.var d 2) (P.un T.inv (P.var d 1))) (P.c (.int 0))) (P.bin T.ne (P.var d 3) (P.c (.int 0)))))))
def f_sides_cross (d : Nat) (ts : List T) : Res T := run 4 (S_sides_cross d) ts
theorem ok_sides_cross {fa : Addr} {fd : FuncData} (F : FnP K "sides_cross" s_sides_cross fa fd) (hm : mg "sides_cross" = some (.ref fa)) : Dok cl Pr w K mg base "sides_cross" 1 3 f_sides_cross := by
  have hN : (["many", "one", "two", "outside"] : List Str).Nodup := sc_sides_cross.nd
  refine dok_of (N := ["many", "one", "two", "outside"]) (ps := ["many", "one", "two"]) F sc_sides_cross rfl (by decide) hm (fun _ _ => rfl) (fun _ _ _ _ _ _ us hl => match us, hl with | [_, _, _], _ => rfl) (fun d cdv A outer s H E hr => ?_)
  exact (db_cons (ds_asg (i := 3) hN (de_op opD_sub (de_op opD_sub (de_op opD_shl de_int (de_v 0)) de_int) (de_op opD_bor (de_v 1) (de_v 2))))
  (db_one (ds_ret (de_and (de_cmp (opD_ne hr.units) (de_op opD_band (de_v 1) (de_v 2)) de_int) (de_and (de_cmp (opD_ne hr.units) (de_op opD_band (de_v 1) (de_un unD_inv (de_v 2))) de_int) (de_and (de_cmp (opD_ne hr.units) (de_op opD_band (de_v 2) (de_un unD_inv (de_v 1))) de_int) (de_one (de_cmp (opD_ne hr.units) (de_v 3) de_int))))))))
/-! ### side -/
abbrev s_side : Stmt := top 42
theorem sc_side : FnScope ["many", "lot"] ["many", "lot"] (defScope s_side) := ⟨rfl, rfl, rfl, by decide +kernel, rfl, by decide +kernel, by decide +kernel⟩
def S_side (d : Nat) : Sx :=
  S.seq (S.ite (P.not (P.tb (P.call (f_is_side_lot (d + 1)) (P.cons (P.var d 0) (P.cons (P.var d 1) P.nil)))))
  (S.raise_ 6 ["lot"] (P.cons (P.var d 1) P.nil))
  S.skip)
  (S.seq (S.ite (P.tb (P.bin T.eq (P.bin T.band (P.var d 1) (P.c (.int 1))) (P.c (.int 1))))
  (S.ret (P.bin T.sub (P.bin T.sub (P.bin T.shl (P.c (.int 1)) (P.var d 0)) (P.c (.int 1))) (P.var d 1)))
  S.skip)
  (S.ret (P.var d 1)))
def f_side (d : Nat) (ts : List T) : Res T := run 2 (S_side d) ts
theorem ok_side {fa : Addr} {fd : FuncData} (F : FnP K "side" s_side fa fd) (hm : mg "side" = some (.ref fa)) (D_is_side_lot : Dok cl Pr w K mg base "is_side_lot" 2 2 f_is_side_lot) (x_BadLot : Xok cl Pr w K mg base "BadLot" 6 ["lot"]) : Dok cl Pr w K mg base "side" 3 2 f_side := by
  have hN : (["many", "lot"] : List Str).Nodup := sc_side.nd
  refine dok_of (N := ["many", "lot"]) (ps := ["many", "lot"]) F sc_side rfl (by decide) hm (fun _ _ => rfl) (fun _ _ _ _ _ _ us hl => match us, hl with | [_, _], _ => rfl) (fun d cdv A outer s H E hr => ?_)
  exact (db_cons (ds_if (dt_not (dt_val (de_d D_is_side_lot (hr.mono (by decide)) (da_cons (de_v 0) (da_cons (de_v 1) da_nil)) (n_cons (n_cons n_nil)))))
  (db_one (ds_raise x_BadLot (hr.mono (by decide)) (da_cons (de_v 1) da_nil)))
  db_nil)
  (db_cons (ds_if (dt_cmp (opD_eq hr.units) (de_op opD_band (de_v 1) de_int) de_int)
  (db_one (ds_ret (de_op opD_sub (de_op opD_sub (de_op opD_shl de_int (de_v 0)) de_int) (de_v 1))))
  db_nil)
  (db_one (ds_ret (de_v 1)))))
/-! ### uncrossed -/
abbrev s_uncrossed : Stmt := top 45
theorem sc_uncrossed : FnScope ["many", "one", "two", "full", "lot", "left", "right"] ["many", "one", "two"] (defScope s_uncrossed) := ⟨rfl, rfl, rfl, by decide +kernel, rfl, by decide +kernel, by decide +kernel⟩
def S_uncrossed (d : Nat) : Sx :=
  S.seq (S.asg 3 (P.bin T.sub (P.bin T.shl (P.c (.int 1)) (P.var d 0)) (P.c (.int 1))))
  (S.seq (S.for_ (S.tName 4) (P.items (P.tup (P.cons (P.var d 1) (P.cons (P.var d 2) P.nil))))
  (S.ite (P.or (P.not (P.tb (P.call (f_is_lot (d + 1)) (P.cons (P.var d 4) P.nil)))) (P.not (P.tb (P.call (f_is_side_lot (d + 1)) (P.cons (P.var d 0) (P.cons (P.bin T.band (P.var d 4) (P.var d 3)) P.nil))))))
  (S.raise_ 6 ["lot"] (P.cons (P.var d 4) P.nil))
  S.skip))
  (S.seq (S.asg 5 (P.bin T.band (P.var d 1) (P.var d 3)))
  (S.seq (S.asg 6 (P.bin T.band (P.var d 2) (P.var d 3)))
  (S.seq (S.ite (P.tb (P.call (f_sides_cross (d + 1)) (P.cons (P.var d 0) (P.cons (P.var d 5) (P.cons (P.var d 6) P.nil)))))
  (S.raise_ 11 ["pair"] (P.cons (P.tup (P.cons (P.call (f_side (d + 1)) (P.cons (P.var d 0) (P.cons (P.var d 5) P.nil))) (P.cons (P.call (f_side (d + 1)) (P.cons (P.var d 0) (P.cons (P.var d 6) P.nil))) P.nil))) P.nil))
  S.skip)
  (S.seq (S.ite (P.or (P.tb (P.bin T.eq (P.bin T.band (P.var d 5) (P.un T.inv (P.var d 6))) (P.c (.int 0)))) (P.tb (P.bin T.eq (P.bin T.band (P.var d 6) (P.un T.inv (P.var d 5))) (P.c (.int 0)))))
  (S.ret (P.tup (P.cons (P.bin T.band (P.var d 1) (P.var d 2)) (P.cons (P.bin T.bor (P.var d 1) (P.var d 2)) P.nil))))
  S.skip)
  (S.ret (P.tup (P.cons (P.bin T.band (P.var d 1) (P.un T.inv (P.var d 2))) (P.cons (P.bin T.band (P.var d 2) (P.un T.inv (P.var d 1))) P.nil)))))))))
def f_uncrossed (d : Nat) (ts : List T) : Res T := run 7 (S_uncrossed d) ts
theorem ok_uncrossed {fa : Addr} {fd : FuncData} (F : FnP K "uncrossed" s_uncrossed fa fd) (hm : mg "uncrossed" = some (.ref fa)) (D_is_lot : Dok cl Pr w K mg base "is_lot" 2 1 f_is_lot) (D_is_side_lot : Dok cl Pr w K mg base "is_side_lot" 2 2 f_is_side_lot) (D_side : Dok cl Pr w K mg base "side" 3 2 f_side) (D_sides_cross : Dok cl Pr w K mg base "sides_cross" 1 3 f_sides_cross) (x_BadLot : Xok cl Pr w K mg base "BadLot" 6 ["lot"]) (x_TwoCross : Xok cl Pr w K mg base "TwoCross" 11 ["pair"]) : Dok cl Pr w K mg base "uncrossed" 4 3 f_uncrossed := by
  have hN : (["many", "one", "two", "full", "lot", "left", "right"] : List Str).Nodup := sc_uncrossed.nd
  refine dok_of (N := ["many", "one", "two", "full", "lot", "left", "right"]) (ps := ["many", "one", "two"]) F sc_uncrossed rfl (by decide) hm (fun _ _ => rfl) (fun _ _ _ _ _ _ us hl => match us, hl with | [_, _, _], _ => rfl) (fun d cdv A outer s H E hr => ?_)
  exact (db_cons (ds_asg (i := 3) hN (de_op opD_sub (de_op opD_shl de_int (de_v 0)) de_int))
  (db_cons (ds_for po_of (di_seq (de_tup (da_cons (de_v 1) (da_cons (de_v 2) da_nil)))) (dg_name (i := 4) hN)
  (db_one (ds_if (dt_w (dw_or (dt_not (dt_val (de_d D_is_lot (hr.mono (by decide)) (da_cons (de_v 4) da_nil) (n_cons n_nil)))) (dw_or1 (dt_not (dt_val (de_d D_is_side_lot (hr.mono (by decide)) (da_cons (de_v 0) (da_cons (de_op opD_band (de_v 4) (de_v 3)) da_nil)) (n_cons (n_cons n_nil))))))))
  (db_one (ds_raise x_BadLot (hr.mono (by decide)) (da_cons (de_v 4) da_nil)))
  db_nil)))
  (db_cons (ds_asg (i := 5) hN (de_op opD_band (de_v 1) (de_v 3)))
  (db_cons (ds_asg (i := 6) hN (de_op opD_band (de_v 2) (de_v 3)))
  (db_cons (ds_if (dt_val (de_d D_sides_cross (hr.mono (by decide)) (da_cons (de_v 0) (da_cons (de_v 5) (da_cons (de_v 6) da_nil))) (n_cons (n_cons (n_cons n_nil)))))
  (db_one (ds_raise x_TwoCross (hr.mono (by decide)) (da_cons (de_tup (da_cons (de_d D_side (hr.mono (by decide)) (da_cons (de_v 0) (da_cons (de_v 5) da_nil)) (n_cons (n_cons n_nil))) (da_cons (de_d D_side (hr.mono (by decide)) (da_cons (de_v 0) (da_cons (de_v 6) da_nil)) (n_cons (n_cons n_nil))) da_nil))) da_nil)))
  db_nil)
  (db_cons (ds_if (dt_w (dw_or (dt_cmp (opD_eq hr.units) (de_op opD_band (de_v 5) (de_un unD_inv (de_v 6))) de_int) (dw_or1 (dt_cmp (opD_eq hr.units) (de_op opD_band (de_v 6) (de_un unD_inv (de_v 5))) de_int))))
  (db_one (ds_ret (de_tup (da_cons (de_op opD_band (de_v 1) (de_v 2)) (da_cons (de_op opD_bor (de_v 1) (de_v 2)) da_nil)))))
  db_nil)
  (db_one (ds_ret (de_tup (da_cons (de_op opD_band (de_v 1) (de_un unD_inv (de_v 2))) (da_cons (de_op opD_band (de_v 2) (de_un unD_inv (de_v 1))) da_nil)))))))))))
/-! ### _law_asked -/
def tab_BadAmount_BadDistricts_BadEdit_BadLengths_BadName_BadOrder_BadPrices_BadQuestion_BadStreet_BadTable_BadText : Nat → Option Bool := fun n => ((([(0, false), (1, true), (2, false), (3, false), (4, true), (5, false), (6, false), (7, false), (8, false), (9, false), (10, false), (11, false), (12, false), (13, false), (14, true), (15, false), (16, true), (17, false), (18, false), (19, true), (20, true), (21, true), (22, false), (23, false), (24, false)] : List (Nat × Bool)) ++ ([(25, false), (26, false), (27, false), (28, true), (29, true), (30, true), (31, true), (32, false), (33, false), (34, false), (35, false)] : List (Nat × Bool))) : List (Nat × Bool)).lookup n
def tab_BadLot : Nat → Option Bool := fun n => ((([(0, false), (1, false), (2, false), (3, false), (4, false), (5, false), (6, true), (7, false), (8, false), (9, false), (10, false), (11, false), (12, false), (13, false), (14, false), (15, false), (16, false), (17, false), (18, false), (19, false), (20, false), (21, false), (22, false), (23, false), (24, false)] : List (Nat × Bool)) ++ ([(25, false), (26, false), (27, false), (28, false), (29, false), (30, false), (31, false), (32, false), (33, false), (34, false), (35, false)] : List (Nat × Bool))) : List (Nat × Bool)).lookup n
def tab_BadTrial_BadWares_BadWay_CountsDiffer_DoubleName_DoubleSide_GatesDiffer_NetsDiffer_NoPlace_NoPlanner_NoStory : Nat → Option Bool := fun n => ((([(0, false), (1, false), (2, true), (3, false), (4, false), (5, false), (6, false), (7, false), (8, true), (9, false), (10, false), (11, false), (12, false), (13, false), (14, false), (15, true), (16, false), (17, false), (18, true), (19, false), (20, false), (21, false), (22, true), (23, true), (24, true)] : List (Nat × Bool)) ++ ([(25, true), (26, true), (27, true), (28, false), (29, false), (30, false), (31, false), (32, false), (33, true), (34, false), (35, false)] : List (Nat × Bool))) : List (Nat × Bool)).lookup n
def tab_NoStreet_NotCrossing_NothingToRedo_NothingToUndo_OddPlace_ThreeCross_TooFewLanes_TooFewSides_TooWide_Unbalanced_ZeroBottom : Nat → Option Bool := fun n => ((([(0, false), (1, false), (2, false), (3, true), (4, false), (5, true), (6, false), (7, true), (8, false), (9, true), (10, true), (11, false), (12, true), (13, true), (14, false), (15, false), (16, false), (17, true), (18, false), (19, false), (20, false), (21, false), (22, false), (23, false), (24, false)] : List (Nat × Bool)) ++ ([(25, false), (26, false), (27, false), (28, false), (29, false), (30, false), (31, false), (32, true), (33, false), (34, true), (35, true)] : List (Nat × Bool))) : List (Nat × Bool)).lookup n
def tab_TownError : Nat → Option Bool := fun n => ((([(0, true), (1, true), (2, true), (3, true), (4, true), (5, true), (6, true), (7, true), (8, true), (9, true), (10, true), (11, true), (12, true), (13, true), (14, true), (15, true), (16, true), (17, true), (18, true), (19, true), (20, true), (21, true), (22, true), (23, true), (24, true)] : List (Nat × Bool)) ++ ([(25, true), (26, true), (27, true), (28, true), (29, true), (30, true), (31, true), (32, true), (33, true), (34, true), (35, true)] : List (Nat × Bool))) : List (Nat × Bool)).lookup n
def tab_TwoCross : Nat → Option Bool := fun n => ((([(0, false), (1, false), (2, false), (3, false), (4, false), (5, false), (6, false), (7, false), (8, false), (9, false), (10, false), (11, true), (12, false), (13, false), (14, false), (15, false), (16, false), (17, false), (18, false), (19, false), (20, false), (21, false), (22, false), (23, false), (24, false)] : List (Nat × Bool)) ++ ([(25, false), (26, false), (27, false), (28, false), (29, false), (30, false), (31, false), (32, false), (33, false), (34, false), (35, false)] : List (Nat × Bool))) : List (Nat × Bool)).lookup n
abbrev s__law_asked : Stmt := top 58
theorem sc__law_asked : FnScope ["g", "one", "two", "e"] ["g", "one", "two"] (defScope s__law_asked) := ⟨rfl, rfl, rfl, by decide +kernel, rfl, by decide +kernel, by decide +kernel⟩
def S__law_asked (d : Nat) : Sx :=
  S.seq (S.try_ tab_TownError 3 (S.ret (P.lst (P.cons (P.c (.str "told")) (P.cons (P.call (f_uncrossed (d + 1)) (P.cons (P.var d 0) (P.cons (P.var d 1) (P.cons (P.var d 2) P.nil)))) P.nil))))
  (S.seq (S.ite (P.tb (P.un (T.isx (tab_BadAmount_BadDistricts_BadEdit_BadLengths_BadName_BadOrder_BadPrices_BadQuestion_BadStreet_BadTable_BadText)) (P.var d 3)))
  (S.ret (P.lst (P.cons (P.c (.str "another")) (P.cons (P.c .non) P.nil))))
  S.skip)
  (S.seq (S.ite (P.tb (P.un (T.isx (tab_BadTrial_BadWares_BadWay_CountsDiffer_DoubleName_DoubleSide_GatesDiffer_NetsDiffer_NoPlace_NoPlanner_NoStory)) (P.var d 3)))
  (S.ret (P.lst (P.cons (P.c (.str "another")) (P.cons (P.c .non) P.nil))))
  S.skip)
  (S.seq (S.ite (P.tb (P.un (T.isx (tab_NoStreet_NotCrossing_NothingToRedo_NothingToUndo_OddPlace_ThreeCross_TooFewLanes_TooFewSides_TooWide_Unbalanced_ZeroBottom)) (P.var d 3)))
  (S.ret (P.lst (P.cons (P.c (.str "another")) (P.cons (P.c .non) P.nil))))
  S.skip)
  (S.seq (S.ite (P.and (P.tb (P.un (T.isx (tab_BadLot)) (P.var d 3))) (P.not (P.tb (P.un (T.isx (tab_TwoCross)) (P.var d 3)))))
  (S.ret (P.lst (P.cons (P.c (.str "BadLot")) (P.cons (P.un (T.xf 6 "lot") (P.var d 3)) P.nil))))
  S.skip)
  (S.ite (P.and (P.tb (P.un (T.isx (tab_TwoCross)) (P.var d 3))) (P.not (P.tb (P.un (T.isx (tab_BadLot)) (P.var d 3)))))
  (S.ret (P.lst (P.cons (P.c (.str "TwoCross")) (P.cons (P.un (T.xf 11 "pair") (P.var d 3)) P.nil))))
  S.skip))))))
  (S.ret (P.lst (P.cons (P.c (.str "another")) (P.cons (P.c .non) P.nil))))
def f__law_asked (d : Nat) (ts : List T) : Res T := run 4 (S__law_asked d) ts
theorem ok__law_asked {fa : Addr} {fd : FuncData} (F : FnP K "_law_asked" s__law_asked fa fd) (hm : mg "_law_asked" = some (.ref fa)) (D_uncrossed : Dok cl Pr w K mg base "uncrossed" 4 3 f_uncrossed) (g_isinstance : mg "isinstance" = none) (m_BadAmount : mg "BadAmount" = some (.ref (cl.f 14))) (m_BadDistricts : mg "BadDistricts" = some (.ref (cl.f 31))) (m_BadEdit : mg "BadEdit" = some (.ref (cl.f 21))) (m_BadLengths : mg "BadLengths" = some (.ref (cl.f 28))) (m_BadLot : mg "BadLot" = some (.ref (cl.f 6))) (m_BadName : mg "BadName" = some (.ref (cl.f 1))) (m_BadOrder : mg "BadOrder" = some (.ref (cl.f 29))) (m_BadPrices : mg "BadPrices" = some (.ref (cl.f 30))) (m_BadQuestion : mg "BadQuestion" = some (.ref (cl.f 20))) (m_BadStreet : mg "BadStreet" = some (.ref (cl.f 4))) (m_BadTable : mg "BadTable" = some (.ref (cl.f 16))) (m_BadText : mg "BadText" = some (.ref (cl.f 19))) (m_BadTrial : mg "BadTrial" = some (.ref (cl.f 22))) (m_BadWares : mg "BadWares" = some (.ref (cl.f 33))) (m_BadWay : mg "BadWay" = some (.ref (cl.f 8))) (m_CountsDiffer : mg "CountsDiffer" = some (.ref (cl.f 26))) (m_DoubleName : mg "DoubleName" = some (.ref (cl.f 2))) (m_DoubleSide : mg "DoubleSide" = some (.ref (cl.f 18))) (m_GatesDiffer : mg "GatesDiffer" = some (.ref (cl.f 25))) (m_NetsDiffer : mg "NetsDiffer" = some (.ref (cl.f 27))) (m_NoPlace : mg "NoPlace" = some (.ref (cl.f 15))) (m_NoPlanner : mg "NoPlanner" = some (.ref (cl.f 24))) (m_NoStory : mg "NoStory" = some (.ref (cl.f 23))) (m_NoStreet : mg "NoStreet" = some (.ref (cl.f 13))) (m_NotCrossing : mg "NotCrossing" = some (.ref (cl.f 12))) (m_NothingToRedo : mg "NothingToRedo" = some (.ref (cl.f 35))) (m_NothingToUndo : mg "NothingToUndo" = some (.ref (cl.f 34))) (m_OddPlace : mg "OddPlace" = some (.ref (cl.f 7))) (m_ThreeCross : mg "ThreeCross" = some (.ref (cl.f 10))) (m_TooFewLanes : mg "TooFewLanes" = some (.ref (cl.f 5))) (m_TooFewSides : mg "TooFewSides" = some (.ref (cl.f 32))) (m_TooWide : mg "TooWide" = some (.ref (cl.f 9))) (m_TownError : mg "TownError" = some (.ref (cl.f 0))) (m_TwoCross : mg "TwoCross" = some (.ref (cl.f 11))) (m_Unbalanced : mg "Unbalanced" = some (.ref (cl.f 17))) (m_ZeroBottom : mg "ZeroBottom" = some (.ref (cl.f 3))) (e_TownError : ∀ n b, tab_TownError n = some b → PySem.W.exmOne K (.ref (cl.f n)) (.ref (cl.f 0)) = some b) (i_BadAmount_BadDistricts_BadEdit_BadLengths_BadName_BadOrder_BadPrices_BadQuestion_BadStreet_BadTable_BadText : ∀ n b, tab_BadAmount_BadDistricts_BadEdit_BadLengths_BadName_BadOrder_BadPrices_BadQuestion_BadStreet_BadTable_BadText n = some b → IsC K (cl.f n) ∧ PySem.W.kitAny K (.ref (cl.f n)) [.ref (cl.f 14), .ref (cl.f 31), .ref (cl.f 21), .ref (cl.f 28), .ref (cl.f 1), .ref (cl.f 29), .ref (cl.f 30), .ref (cl.f 20), .ref (cl.f 4), .ref (cl.f 16), .ref (cl.f 19)] = some b) (i_BadLot : ∀ n b, tab_BadLot n = some b → IsC K (cl.f n) ∧ PySem.W.kitOne K (.ref (cl.f n)) (.ref (cl.f 6)) = some b) (i_BadTrial_BadWares_BadWay_CountsDiffer_DoubleName_DoubleSide_GatesDiffer_NetsDiffer_NoPlace_NoPlanner_NoStory : ∀ n b, tab_BadTrial_BadWares_BadWay_CountsDiffer_DoubleName_DoubleSide_GatesDiffer_NetsDiffer_NoPlace_NoPlanner_NoStory n = some b → IsC K (cl.f n) ∧ PySem.W.kitAny K (.ref (cl.f n)) [.ref (cl.f 22), .ref (cl.f 33), .ref (cl.f 8), .ref (cl.f 26), .ref (cl.f 2), .ref (cl.f 18), .ref (cl.f 25), .ref (cl.f 27), .ref (cl.f 15), .ref (cl.f 24), .ref (cl.f 23)] = some b) (i_NoStreet_NotCrossing_NothingToRedo_NothingToUndo_OddPlace_ThreeCross_TooFewLanes_TooFewSides_TooWide_Unbalanced_ZeroBottom : ∀ n b, tab_NoStreet_NotCrossing_NothingToRedo_NothingToUndo_OddPlace_ThreeCross_TooFewLanes_TooFewSides_TooWide_Unbalanced_ZeroBottom n = some b → IsC K (cl.f n) ∧ PySem.W.kitAny K (.ref (cl.f n)) [.ref (cl.f 13), .ref (cl.f 12), .ref (cl.f 35), .ref (cl.f 34), .ref (cl.f 7), .ref (cl.f 10), .ref (cl.f 5), .ref (cl.f 32), .ref (cl.f 9), .ref (cl.f 17), .ref (cl.f 3)] = some b) (i_TwoCross : ∀ n b, tab_TwoCross n = some b → IsC K (cl.f n) ∧ PySem.W.kitOne K (.ref (cl.f n)) (.ref (cl.f 11)) = some b) (xf_BadLot : XfC K (cl.f 6)) (xf_TwoCross : XfC K (cl.f 11)) (na_BadLot_lot : PySem.W.findIn K (.ref (cl.f 6)) "lot" = some none) (na_TwoCross_pair : PySem.W.findIn K (.ref (cl.f 11)) "pair" = some none) (h0 : cl.xh = none) : Dok cl Pr w K mg base "_law_asked" 5 3 f__law_asked := by
  have hN : (["g", "one", "two", "e"] : List Str).Nodup := sc__law_asked.nd
  refine dok_of (N := ["g", "one", "two", "e"]) (ps := ["g", "one", "two"]) F sc__law_asked rfl (by decide) hm (fun _ _ => rfl) (fun _ _ _ _ _ _ us hl => match us, hl with | [_, _, _], _ => rfl) (fun d cdv A outer s H E hr => ?_)
  exact (db_cons (ds_try (i := 3) hN ⟨rfl, by decide, .inl m_TownError⟩ e_TownError (fun W' pn xe t po => db_one (ds_ret (de_lst (da_cons de_str (da_cons (de_d D_uncrossed (hr.mono (by decide)) (da_cons (de_v 0) (da_cons (de_v 1) (da_cons (de_v 2) da_nil))) (n_cons (n_cons (n_cons n_nil))) (tk := t)) da_nil))))) (fun a oe cls dx pn hz hf => db_cons (ds_if (dt_val (de_isXT g_isinstance (NCs.cons (NC.own m_BadAmount) (NCs.cons (NC.own m_BadDistricts) (NCs.cons (NC.own m_BadEdit) (NCs.cons (NC.own m_BadLengths) (NCs.cons (NC.own m_BadName) (NCs.cons (NC.own m_BadOrder) (NCs.cons (NC.own m_BadPrices) (NCs.cons (NC.own m_BadQuestion) (NCs.cons (NC.own m_BadStreet) (NCs.cons (NC.own m_BadTable) (NCs.cons (NC.own m_BadText) NCs.nil))))))))))) i_BadAmount_BadDistricts_BadEdit_BadLengths_BadName_BadOrder_BadPrices_BadQuestion_BadStreet_BadTable_BadText hz hf (de_v 3)))
  (db_one (ds_ret (de_lst (da_cons de_str (da_cons de_non da_nil)))))
  db_nil)
  (db_cons (ds_if (dt_val (de_isXT g_isinstance (NCs.cons (NC.own m_BadTrial) (NCs.cons (NC.own m_BadWares) (NCs.cons (NC.own m_BadWay) (NCs.cons (NC.own m_CountsDiffer) (NCs.cons (NC.own m_DoubleName) (NCs.cons (NC.own m_DoubleSide) (NCs.cons (NC.own m_GatesDiffer) (NCs.cons (NC.own m_NetsDiffer) (NCs.cons (NC.own m_NoPlace) (NCs.cons (NC.own m_NoPlanner) (NCs.cons (NC.own m_NoStory) NCs.nil))))))))))) i_BadTrial_BadWares_BadWay_CountsDiffer_DoubleName_DoubleSide_GatesDiffer_NetsDiffer_NoPlace_NoPlanner_NoStory hz hf (de_v 3)))
  (db_one (ds_ret (de_lst (da_cons de_str (da_cons de_non da_nil)))))
  db_nil)
  (db_cons (ds_if (dt_val (de_isXT g_isinstance (NCs.cons (NC.own m_NoStreet) (NCs.cons (NC.own m_NotCrossing) (NCs.cons (NC.own m_NothingToRedo) (NCs.cons (NC.own m_NothingToUndo) (NCs.cons (NC.own m_OddPlace) (NCs.cons (NC.own m_ThreeCross) (NCs.cons (NC.own m_TooFewLanes) (NCs.cons (NC.own m_TooFewSides) (NCs.cons (NC.own m_TooWide) (NCs.cons (NC.own m_Unbalanced) (NCs.cons (NC.own m_ZeroBottom) NCs.nil))))))))))) i_NoStreet_NotCrossing_NothingToRedo_NothingToUndo_OddPlace_ThreeCross_TooFewLanes_TooFewSides_TooWide_Unbalanced_ZeroBottom hz hf (de_v 3)))
  (db_one (ds_ret (de_lst (da_cons de_str (da_cons de_non da_nil)))))
  db_nil)
  (db_cons (ds_if (dt_w (dw_and (dt_val (de_isX g_isinstance (NC.own m_BadLot) i_BadLot hz hf (de_v 3))) (dw_and1 (dt_not (dt_val (de_isX g_isinstance (NC.own m_TwoCross) i_TwoCross hz hf (de_v 3)))))))
  (db_one (ds_ret (de_lst (da_cons de_str (da_cons (de_xf xf_BadLot na_BadLot_lot hz hf (de_v 3)) da_nil)))))
  db_nil)
  (db_one (ds_if (dt_w (dw_and (dt_val (de_isX g_isinstance (NC.own m_TwoCross) i_TwoCross hz hf (de_v 3))) (dw_and1 (dt_not (dt_val (de_isX g_isinstance (NC.own m_BadLot) i_BadLot hz hf (de_v 3)))))))
  (db_one (ds_ret (de_lst (da_cons de_str (da_cons (de_xf xf_TwoCross na_TwoCross_pair hz hf (de_v 3)) da_nil)))))
  db_nil)))))) tk_of h0)
  (db_one (ds_ret (de_lst (da_cons de_str (da_cons de_non da_nil))))))
/-! ### _law_right -/
abbrev s__law_right : Stmt := top 59
theorem sc__law_right : FnScope ["g", "one", "two", "due", "found"] ["g", "one", "two"] (defScope s__law_right) := ⟨rfl, rfl, rfl, by decide +kernel, rfl, by decide +kernel, by decide +kernel⟩
def S__law_right (d : Nat) : Sx :=
  S.seq (S.asg 3 (P.call (f__law_due (d + 1)) (P.cons (P.var d 0) (P.cons (P.var d 1) (P.cons (P.var d 2) P.nil)))))
  (S.seq (S.asg 4 (P.call (f__law_asked (d + 1)) (P.cons (P.var d 0) (P.cons (P.var d 1) (P.cons (P.var d 2) P.nil)))))
  (S.seq (S.ite (P.tb (P.bin T.ne (P.bin T.ix (P.var d 4) (P.c (.int 0))) (P.bin T.ix (P.var d 3) (P.c (.int 0)))))
  (S.ret (P.c (.bl false)))
  S.skip)
  (S.seq (S.ite (P.tb (P.bin T.eq (P.bin T.ix (P.var d 3) (P.c (.int 0))) (P.c (.str "BadLot"))))
  (S.ret (P.andV (P.bin T.eq (P.un (T.isi "bool") (P.bin T.ix (P.var d 4) (P.c (.int 1)))) (P.un (T.isi "bool") (P.bin T.ix (P.var d 3) (P.c (.int 1))))) (P.bin T.eq (P.bin T.ix (P.var d 4) (P.c (.int 1))) (P.bin T.ix (P.var d 3) (P.c (.int 1))))))
  S.skip)
  (S.seq (S.ite (P.or (P.not (P.tb (P.un (T.isi "tuple") (P.bin T.ix (P.var d 4) (P.c (.int 1)))))) (P.tb (P.bin T.ne (P.call (fun ts => .of (B.len ts)) (P.cons (P.bin T.ix (P.var d 4) (P.c (.int 1))) P.nil)) (P.c (.int 2)))))
  (S.ret (P.c (.bl false)))
  S.skip)
  (S.ret (P.andV (P.call (f__law_whole (d + 1)) (P.cons (P.bin T.ix (P.bin T.ix (P.var d 4) (P.c (.int 1))) (P.c (.int 0))) P.nil)) (P.andV (P.call (f__law_whole (d + 1)) (P.cons (P.bin T.ix (P.bin T.ix (P.var d 4) (P.c (.int 1))) (P.c (.int 1))) P.nil)) (P.bin T.eq (P.bin T.ix (P.var d 4) (P.c (.int 1))) (P.bin T.ix (P.var d 3) (P.c (.int 1)))))))))))
def f__law_right (d : Nat) (ts : List T) : Res T := run 5 (S__law_right d) ts
theorem ok__law_right {fa : Addr} {fd : FuncData} (F : FnP K "_law_right" s__law_right fa fd) (hm : mg "_law_right" = some (.ref fa)) (D__law_asked : Dok cl Pr w K mg base "_law_asked" 5 3 f__law_asked) (D__law_due : Dok cl Pr w K mg base "_law_due" 4 3 f__law_due) (D__law_whole : Dok cl Pr w K mg base "_law_whole" 1 1 f__law_whole) (g_bool : mg "bool" = none) (g_isinstance : mg "isinstance" = none) (g_len : mg "len" = none) (g_tuple : mg "tuple" = none) : Dok cl Pr w K mg base "_law_right" 6 3 f__law_right := by
  have hN : (["g", "one", "two", "due", "found"] : List Str).Nodup := sc__law_right.nd
  refine dok_of (N := ["g", "one", "two", "due", "found"]) (ps := ["g", "one", "two"]) F sc__law_right rfl (by decide) hm (fun _ _ => rfl) (fun _ _ _ _ _ _ us hl => match us, hl with | [_, _, _], _ => rfl) (fun d cdv A outer s H E hr => ?_)
  exact (db_cons (ds_asg (i := 3) hN (de_d D__law_due (hr.mono (by decide)) (da_cons (de_v 0) (da_cons (de_v 1) (da_cons (de_v 2) da_nil))) (n_cons (n_cons (n_cons n_nil)))))
  (db_cons (ds_asg (i := 4) hN (de_d D__law_asked (hr.mono (by decide)) (da_cons (de_v 0) (da_cons (de_v 1) (da_cons (de_v 2) da_nil))) (n_cons (n_cons (n_cons n_nil)))))
  (db_cons (ds_if (dt_cmp (opD_ne hr.units) (de_ix (de_v 4) de_int) (de_ix (de_v 3) de_int))
  (db_one (ds_ret de_bl))
  db_nil)
  (db_cons (ds_if (dt_cmp (opD_eq hr.units) (de_ix (de_v 3) de_int) de_str)
  (db_one (ds_ret (de_and (de_cmp (opD_eq hr.units) (de_isi g_isinstance g_bool (by decide +kernel) (de_ix (de_v 4) de_int)) (de_isi g_isinstance g_bool (by decide +kernel) (de_ix (de_v 3) de_int))) (de_one (de_cmp (opD_eq hr.units) (de_ix (de_v 4) de_int) (de_ix (de_v 3) de_int))))))
  db_nil)
  (db_cons (ds_if (dt_w (dw_or (dt_not (dt_val (de_isi g_isinstance g_tuple (by decide +kernel) (de_ix (de_v 4) de_int)))) (dw_or1 (dt_cmp (opD_ne hr.units) (de_b crd_len g_len (by decide +kernel) (da_cons (de_ix (de_v 4) de_int) da_nil)) de_int))))
  (db_one (ds_ret de_bl))
  db_nil)
  (db_one (ds_ret (de_and (de_d D__law_whole (hr.mono (by decide)) (da_cons (de_ix (de_ix (de_v 4) de_int) de_int) da_nil) (n_cons n_nil)) (de_and (de_d D__law_whole (hr.mono (by decide)) (da_cons (de_ix (de_ix (de_v 4) de_int) de_int) da_nil) (n_cons n_nil)) (de_one (de_cmp (opD_eq hr.units) (de_ix (de_v 4) de_int) (de_ix (de_v 3) de_int))))))))))))
/-! ### law -/
abbrev s_law : Stmt := top 60
theorem sc_law : FnScope ["script", "head", "g", "count", "full", "pairs", "k", "gates", "inner", "pair", "good", "beyond", "bad", "near"] ["script"] (defScope s_law) := ⟨rfl, rfl, rfl, by decide +kernel, rfl, by decide +kernel, by decide +kernel⟩
def S_law (d : Nat) : Sx :=
  S.seq (S.asg 1 (P.call (f__law_digits (d + 1)) (P.cons (P.call (f__law_cell (d + 1)) (P.cons (P.var d 0) (P.cons (P.c (.int 0)) P.nil))) (P.cons (P.lst (P.cons (P.c (.int 8)) (P.cons (P.c (.int 8)) (P.cons (P.c (.int 8)) (P.cons (P.c (.int 19)) (P.cons (P.c (.int 19)) (P.cons (P.c (.int 62)) P.nil))))))) P.nil))))
  (S.seq (S.asg 2 (P.bin T.ix (P.lst (P.cons (P.c (.int 4)) (P.cons (P.c (.int 5)) (P.cons (P.c (.int 6)) (P.cons (P.c (.int 4)) (P.cons (P.c (.int 5)) (P.cons (P.c (.int 3)) (P.cons (P.c (.int 6)) (P.cons (P.c (.int 2)) P.nil))))))))) (P.bin T.ix (P.var d 1) (P.c (.int 0)))))
  (S.seq (S.asg 3 (P.bin T.ix (P.lst (P.cons (P.c (.int 3)) (P.cons (P.c (.int 2)) (P.cons (P.c (.int 4)) (P.cons (P.c (.int 60)) (P.cons (P.c (.int 1)) (P.cons (P.c (.int 5)) (P.cons (P.c (.int 0)) (P.cons (P.c (.int 3)) P.nil))))))))) (P.bin T.ix (P.var d 1) (P.c (.int 1)))))
  (S.seq (S.asg 4 (P.bin T.sub (P.bin T.shl (P.c (.int 1)) (P.var d 2)) (P.c (.int 1))))
  (S.seq (S.new 5 (lfits P.nil))
  (S.seq (S.forX (S.tName 6) (P.rng1 (P.cons (P.c (.int 6)) P.nil))
  (S.seq (S.asg 7 (P.call (f__law_gates (d + 1)) (P.cons (P.call (f__law_cell (d + 1)) (P.cons (P.var d 0) (P.cons (P.bin T.add (P.c (.int 1)) (P.bin T.mul (P.c (.int 2)) (P.var d 6))) P.nil))) (P.cons (P.var d 2) (P.cons (P.bin T.mod (P.call (fun ts => .of (B.int ts)) (P.cons (P.bin T.add (P.bin T.ix (P.var d 1) (P.c (.int 2))) (P.var d 6)) P.nil)) (P.c (.int 8))) P.nil)))))
  (S.seq (S.asg 8 (P.call (f__law_inner (d + 1)) (P.cons (P.call (f__law_cell (d + 1)) (P.cons (P.var d 0) (P.cons (P.bin T.add (P.c (.int 2)) (P.bin T.mul (P.c (.int 2)) (P.var d 6))) P.nil))) (P.cons (P.var d 2) (P.cons (P.var d 3) P.nil)))))
  (S.app 5 (P.lst (P.cons (P.bin T.add (P.bin T.ix (P.var d 7) (P.c (.int 0))) (P.bin T.ix (P.var d 8) (P.c (.int 0)))) (P.cons (P.bin T.add (P.bin T.ix (P.var d 7) (P.c (.int 1))) (P.bin T.ix (P.var d 8) (P.c (.int 1)))) P.nil)))))))
  (S.seq (S.frz 5 (S.for_ (S.tName 9) (P.items (P.var d 5))
  (S.ite (P.or (P.not (P.tb (P.call (f__law_right (d + 1)) (P.cons (P.var d 2) (P.cons (P.bin T.ix (P.var d 9) (P.c (.int 0))) (P.cons (P.bin T.ix (P.var d 9) (P.c (.int 1))) P.nil)))))) (P.not (P.tb (P.call (f__law_right (d + 1)) (P.cons (P.var d 2) (P.cons (P.bin T.ix (P.var d 9) (P.c (.int 1))) (P.cons (P.bin T.ix (P.var d 9) (P.c (.int 0))) P.nil)))))))
  (S.ret (P.c (.bl false)))
  S.skip)))
  (S.seq (S.asg 10 (P.bin T.add (P.c (.int 1)) (P.bin T.mod (P.call (fun ts => .of (B.int ts)) (P.cons (P.bin T.ix (P.var d 1) (P.c (.int 5))) P.nil)) (P.bin T.sub (P.var d 4) (P.c (.int 1))))))
  (S.seq (S.asg 11 (P.bin T.shl (P.c (.int 1)) (P.bin T.add (P.var d 2) (P.bin T.mod (P.call (fun ts => .of (B.int ts)) (P.cons (P.bin T.ix (P.var d 1) (P.c (.int 5))) P.nil)) (P.c (.int 60))))))
  (S.seq (S.asg 12 (P.lst (P.cons (P.c (.int 0)) (P.cons (P.var d 4) (P.cons (P.bin T.add (P.var d 4) (P.var d 11)) (P.cons (P.var d 11) (P.cons (P.un T.neg (P.c (.int 1))) (P.cons (P.un T.neg (P.c (.int 2))) (P.cons (P.bin T.sub (P.un T.neg (P.c (.int 1))) (P.var d 10)) (P.cons (P.c (.bl true)) (P.cons (P.c (.bl false)) (P.cons (P.c .non) (P.cons (P.c (.str "")) (P.cons (P.c (.str "3")) (P.cons (P.c (.str "q")) (P.cons (P.tup (P.cons (P.c (.int 1)) (P.cons (P.c (.int 2)) P.nil))) (P.cons (P.lst (P.cons (P.var d 10) P.nil)) (P.cons (P.bin T.add (P.var d 4) (P.bin T.shl (P.c (.int 1)) (P.var d 2))) (P.cons (P.bin T.shl (P.c (.int 1)) (P.var d 2)) (P.cons (P.un T.neg (P.var d 11)) (P.cons (P.tup (P.cons (P.var d 10) P.nil)) P.nil)))))))))))))))))))))
  (S.seq (S.asg 13 (P.lst (P.cons (P.c (.int 1)) (P.cons (P.bin T.sub (P.var d 4) (P.c (.int 1))) (P.cons (P.bin T.add (P.bin T.sub (P.var d 4) (P.c (.int 1))) (P.var d 11)) (P.cons (P.bin T.add (P.c (.int 1)) (P.var d 11)) (P.cons (P.c (.int 2)) (P.cons (P.var d 10) (P.cons (P.bin T.add (P.var d 10) (P.var d 11)) (P.cons (P.c (.int 1)) (P.cons (P.c (.int 2)) (P.cons (P.bin T.sub (P.var d 4) (P.c (.int 1))) (P.cons (P.c (.int 1)) (P.cons (P.c (.int 3)) (P.cons (P.c (.int 1)) (P.cons (P.c (.int 1)) (P.cons (P.var d 10) (P.cons (P.bin T.add (P.bin T.sub (P.var d 4) (P.c (.int 1))) (P.bin T.shl (P.c (.int 1)) (P.var d 2))) (P.cons (P.bin T.add (P.c (.int 1)) (P.bin T.shl (P.c (.int 1)) (P.var d 2))) (P.cons (P.bin T.add (P.c (.int 1)) (P.var d 11)) (P.cons (P.var d 10) P.nil)))))))))))))))))))))
  (S.seq (S.forX (S.tName 6) (P.rng1 (P.cons (P.c (.int 19)) P.nil))
  (S.for_ (S.tName 9) (P.items (P.lst (P.cons (P.lst (P.cons (P.bin T.ix (P.var d 12) (P.var d 6)) (P.cons (P.var d 10) P.nil))) (P.cons (P.lst (P.cons (P.bin T.add (P.var d 10) (P.var d 11)) (P.cons (P.bin T.ix (P.var d 12) (P.var d 6)) P.nil))) (P.cons (P.lst (P.cons (P.bin T.ix (P.var d 12) (P.var d 6)) (P.cons (P.bin T.ix (P.var d 12) (P.bin T.ix (P.var d 1) (P.c (.int 3)))) P.nil))) (P.cons (P.lst (P.cons (P.bin T.ix (P.var d 13) (P.var d 6)) (P.cons (P.var d 10) P.nil))) (P.cons (P.lst (P.cons (P.bin T.add (P.var d 10) (P.var d 11)) (P.cons (P.bin T.ix (P.var d 13) (P.var d 6)) P.nil))) (P.cons (P.lst (P.cons (P.bin T.ix (P.var d 13) (P.var d 6)) (P.cons (P.bin T.ix (P.var d 13) (P.bin T.ix (P.var d 1) (P.c (.int 4)))) P.nil))) P.nil))))))))
  (S.ite (P.not (P.tb (P.call (f__law_right (d + 1)) (P.cons (P.var d 2) (P.cons (P.bin T.ix (P.var d 9) (P.c (.int 0))) (P.cons (P.bin T.ix (P.var d 9) (P.c (.int 1))) P.nil))))))
  (S.ret (P.c (.bl false)))
  S.skip)))
  (S.retX (P.call (f__law_right (d + 1)) (P.cons (P.var d 2) (P.cons (P.bin T.ix (P.bin T.ix (P.var d 5) (P.c (.int 0))) (P.c (.int 0))) (P.cons (P.bin T.ix (P.bin T.ix (P.var d 5) (P.c (.int 0))) (P.c (.int 1))) P.nil))))))))))))))))
def f_law (d : Nat) (ts : List T) : Res T := run 14 (S_law d) ts
theorem ok_law {fa : Addr} {fd : FuncData} (F : FnP K "law" s_law fa fd) (hm : mg "law" = some (.ref fa)) (D__law_cell : Dok cl Pr w K mg base "_law_cell" 1 2 f__law_cell) (D__law_digits : Dok cl Pr w K mg base "_law_digits" 1 2 f__law_digits) (D__law_gates : Dok cl Pr w K mg base "_law_gates" 2 3 f__law_gates) (D__law_inner : Dok cl Pr w K mg base "_law_inner" 2 3 f__law_inner) (D__law_right : Dok cl Pr w K mg base "_law_right" 6 3 f__law_right) (g_int : mg "int" = none) (g_range : mg "range" = none) : Dok cl Pr w K mg base "law" 7 1 f_law := by
  have hN : (["script", "head", "g", "count", "full", "pairs", "k", "gates", "inner", "pair", "good", "beyond", "bad", "near"] : List Str).Nodup := sc_law.nd
  refine dok_of (N := ["script", "head", "g", "count", "full", "pairs", "k", "gates", "inner", "pair", "good", "beyond", "bad", "near"]) (ps := ["script"]) F sc_law rfl (by decide) hm (fun _ _ => rfl) (fun _ _ _ _ _ _ us hl => match us, hl with | [_], _ => rfl) (fun d cdv A outer s H E hr => ?_)
  exact (db_cons (ds_asg (i := 1) hN (de_d D__law_digits (hr.mono (by decide)) (da_cons (de_d D__law_cell (hr.mono (by decide)) (da_cons (de_v 0) (da_cons de_int da_nil)) (n_cons (n_cons n_nil))) (da_cons (de_lst (da_cons de_int (da_cons de_int (da_cons de_int (da_cons de_int (da_cons de_int (da_cons de_int da_nil))))))) da_nil)) (n_cons (n_cons n_nil))))
  (db_cons (ds_asg (i := 2) hN (de_ix (de_lst (da_cons de_int (da_cons de_int (da_cons de_int (da_cons de_int (da_cons de_int (da_cons de_int (da_cons de_int (da_cons de_int da_nil))))))))) (de_ix (de_v 1) de_int)))
  (db_cons (ds_asg (i := 3) hN (de_ix (de_lst (da_cons de_int (da_cons de_int (da_cons de_int (da_cons de_int (da_cons de_int (da_cons de_int (da_cons de_int (da_cons de_int da_nil))))))))) (de_ix (de_v 1) de_int)))
  (db_cons (ds_asg (i := 4) hN (de_op opD_sub (de_op opD_shl de_int (de_v 2)) de_int))
  (db_cons (ds_new (i := 5) hN (dn_lst da_nil))
  (db_cons (ds_forX po_of (dif_rng1 (da_cons de_int da_nil) g_range) (dg_name (i := 6) hN)
  (db_cons (ds_asg (i := 7) hN (de_d D__law_gates (hr.mono (by decide)) (da_cons (de_d D__law_cell (hr.mono (by decide)) (da_cons (de_v 0) (da_cons (de_op opD_add de_int (de_op opD_mul de_int (de_v 6))) da_nil)) (n_cons (n_cons n_nil))) (da_cons (de_v 2) (da_cons (de_op opD_mod (de_ty crd_int g_int (by decide +kernel) (da_cons (de_op opD_add (de_ix (de_v 1) de_int) (de_v 6)) da_nil)) de_int) da_nil))) (n_cons (n_cons (n_cons n_nil)))))
  (db_cons (ds_asg (i := 8) hN (de_d D__law_inner (hr.mono (by decide)) (da_cons (de_d D__law_cell (hr.mono (by decide)) (da_cons (de_v 0) (da_cons (de_op opD_add de_int (de_op opD_mul de_int (de_v 6))) da_nil)) (n_cons (n_cons n_nil))) (da_cons (de_v 2) (da_cons (de_v 3) da_nil))) (n_cons (n_cons (n_cons n_nil)))))
  (db_one (ds_app (i := 5) (de_lst (da_cons (de_op opD_add (de_ix (de_v 7) de_int) (de_ix (de_v 8) de_int)) (da_cons (de_op opD_add (de_ix (de_v 7) de_int) (de_ix (de_v 8) de_int)) da_nil))))))))
  (db_cons (ds_frz 5 (ds_for po_of (di_seq (de_v 5)) (dg_name (i := 9) hN)
  (db_one (ds_if (dt_w (dw_or (dt_not (dt_val (de_d D__law_right (hr.mono (by decide)) (da_cons (de_v 2) (da_cons (de_ix (de_v 9) de_int) (da_cons (de_ix (de_v 9) de_int) da_nil))) (n_cons (n_cons (n_cons n_nil)))))) (dw_or1 (dt_not (dt_val (de_d D__law_right (hr.mono (by decide)) (da_cons (de_v 2) (da_cons (de_ix (de_v 9) de_int) (da_cons (de_ix (de_v 9) de_int) da_nil))) (n_cons (n_cons (n_cons n_nil)))))))))
  (db_one (ds_ret de_bl))
  db_nil))))
  (db_cons (ds_asg (i := 10) hN (de_op opD_add de_int (de_op opD_mod (de_ty crd_int g_int (by decide +kernel) (da_cons (de_ix (de_v 1) de_int) da_nil)) (de_op opD_sub (de_v 4) de_int))))
  (db_cons (ds_asg (i := 11) hN (de_op opD_shl de_int (de_op opD_add (de_v 2) (de_op opD_mod (de_ty crd_int g_int (by decide +kernel) (da_cons (de_ix (de_v 1) de_int) da_nil)) de_int))))
  (db_cons (ds_asg (i := 12) hN (de_lst (da_cons de_int (da_cons (de_v 4) (da_cons (de_op opD_add (de_v 4) (de_v 11)) (da_cons (de_v 11) (da_cons (de_un unD_neg de_int) (da_cons (de_un unD_neg de_int) (da_cons (de_op opD_sub (de_un unD_neg de_int) (de_v 10)) (da_cons de_bl (da_cons de_bl (da_cons de_non (da_cons de_str (da_cons de_str (da_cons de_str (da_cons (de_tup (da_cons de_int (da_cons de_int da_nil))) (da_cons (de_lst (da_cons (de_v 10) da_nil)) (da_cons (de_op opD_add (de_v 4) (de_op opD_shl de_int (de_v 2))) (da_cons (de_op opD_shl de_int (de_v 2)) (da_cons (de_un unD_neg (de_v 11)) (da_cons (de_tup (da_cons (de_v 10) da_nil)) da_nil)))))))))))))))))))))
  (db_cons (ds_asg (i := 13) hN (de_lst (da_cons de_int (da_cons (de_op opD_sub (de_v 4) de_int) (da_cons (de_op opD_add (de_op opD_sub (de_v 4) de_int) (de_v 11)) (da_cons (de_op opD_add de_int (de_v 11)) (da_cons de_int (da_cons (de_v 10) (da_cons (de_op opD_add (de_v 10) (de_v 11)) (da_cons de_int (da_cons de_int (da_cons (de_op opD_sub (de_v 4) de_int) (da_cons de_int (da_cons de_int (da_cons de_int (da_cons de_int (da_cons (de_v 10) (da_cons (de_op opD_add (de_op opD_sub (de_v 4) de_int) (de_op opD_shl de_int (de_v 2))) (da_cons (de_op opD_add de_int (de_op opD_shl de_int (de_v 2))) (da_cons (de_op opD_add de_int (de_v 11)) (da_cons (de_v 10) da_nil)))))))))))))))))))))
  (db_cons (ds_forX po_of (dif_rng1 (da_cons de_int da_nil) g_range) (dg_name (i := 6) hN)
  (db_one (ds_for po_of (di_seq (de_lst (da_cons (de_lst (da_cons (de_ix (de_v 12) (de_v 6)) (da_cons (de_v 10) da_nil))) (da_cons (de_lst (da_cons (de_op opD_add (de_v 10) (de_v 11)) (da_cons (de_ix (de_v 12) (de_v 6)) da_nil))) (da_cons (de_lst (da_cons (de_ix (de_v 12) (de_v 6)) (da_cons (de_ix (de_v 12) (de_ix (de_v 1) de_int)) da_nil))) (da_cons (de_lst (da_cons (de_ix (de_v 13) (de_v 6)) (da_cons (de_v 10) da_nil))) (da_cons (de_lst (da_cons (de_op opD_add (de_v 10) (de_v 11)) (da_cons (de_ix (de_v 13) (de_v 6)) da_nil))) (da_cons (de_lst (da_cons (de_ix (de_v 13) (de_v 6)) (da_cons (de_ix (de_v 13) (de_ix (de_v 1) de_int)) da_nil))) da_nil)))))))) (dg_name (i := 9) hN)
  (db_one (ds_if (dt_not (dt_val (de_d D__law_right (hr.mono (by decide)) (da_cons (de_v 2) (da_cons (de_ix (de_v 9) de_int) (da_cons (de_ix (de_v 9) de_int) da_nil))) (n_cons (n_cons (n_cons n_nil))))))
  (db_one (ds_ret de_bl))
  db_nil)))))
  (db_one (ds_retX (de_d D__law_right (hr.mono (by decide)) (da_cons (de_v 2) (da_cons (de_ix (de_ix (de_v 5) de_int) de_int) (da_cons (de_ix (de_ix (de_v 5) de_int) de_int) da_nil))) (n_cons (n_cons (n_cons n_nil))))))))))))))))))
theorem okF_law {fa : Addr} {fd : FuncData} (F : FnP K "law" s_law fa fd) (D__law_cell : Dok cl Pr w K mg base "_law_cell" 1 2 f__law_cell) (D__law_digits : Dok cl Pr w K mg base "_law_digits" 1 2 f__law_digits) (D__law_gates : Dok cl Pr w K mg base "_law_gates" 2 3 f__law_gates) (D__law_inner : Dok cl Pr w K mg base "_law_inner" 2 3 f__law_inner) (D__law_right : Dok cl Pr w K mg base "_law_right" 6 3 f__law_right) (g_int : mg "int" = none) (g_range : mg "range" = none) : FnOk Pr w K mg base (L2.CX Pr w) 7 fa fd ["script"] (spT ⟨K, cl⟩ 1 f_law) := by
  have hN : (["script", "head", "g", "count", "full", "pairs", "k", "gates", "inner", "pair", "good", "beyond", "bad", "near"] : List Str).Nodup := sc_law.nd
  refine def_ok (N := ["script", "head", "g", "count", "full", "pairs", "k", "gates", "inner", "pair", "good", "beyond", "bad", "near"]) (ps := ["script"]) F sc_law rfl (by decide) (fun _ _ => rfl) (fun d cdv A outer s H E hr => ?_)
  exact (db_cons (ds_asg (i := 1) hN (de_d D__law_digits (hr.mono (by decide)) (da_cons (de_d D__law_cell (hr.mono (by decide)) (da_cons (de_v 0) (da_cons de_int da_nil)) (n_cons (n_cons n_nil))) (da_cons (de_lst (da_cons de_int (da_cons de_int (da_cons de_int (da_cons de_int (da_cons de_int (da_cons de_int da_nil))))))) da_nil)) (n_cons (n_cons n_nil))))
  (db_cons (ds_asg (i := 2) hN (de_ix (de_lst (da_cons de_int (da_cons de_int (da_cons de_int (da_cons de_int (da_cons de_int (da_cons de_int (da_cons de_int (da_cons de_int da_nil))))))))) (de_ix (de_v 1) de_int)))
  (db_cons (ds_asg (i := 3) hN (de_ix (de_lst (da_cons de_int (da_cons de_int (da_cons de_int (da_cons de_int (da_cons de_int (da_cons de_int (da_cons de_int (da_cons de_int da_nil))))))))) (de_ix (de_v 1) de_int)))
  (db_cons (ds_asg (i := 4) hN (de_op opD_sub (de_op opD_shl de_int (de_v 2)) de_int))
  (db_cons (ds_new (i := 5) hN (dn_lst da_nil))
  (db_cons (ds_forX po_of (dif_rng1 (da_cons de_int da_nil) g_range) (dg_name (i := 6) hN)
  (db_cons (ds_asg (i := 7) hN (de_d D__law_gates (hr.mono (by decide)) (da_cons (de_d D__law_cell (hr.mono (by decide)) (da_cons (de_v 0) (da_cons (de_op opD_add de_int (de_op opD_mul de_int (de_v 6))) da_nil)) (n_cons (n_cons n_nil))) (da_cons (de_v 2) (da_cons (de_op opD_mod (de_ty crd_int g_int (by decide +kernel) (da_cons (de_op opD_add (de_ix (de_v 1) de_int) (de_v 6)) da_nil)) de_int) da_nil))) (n_cons (n_cons (n_cons n_nil)))))
  (db_cons (ds_asg (i := 8) hN (de_d D__law_inner (hr.mono (by decide)) (da_cons (de_d D__law_cell (hr.mono (by decide)) (da_cons (de_v 0) (da_cons (de_op opD_add de_int (de_op opD_mul de_int (de_v 6))) da_nil)) (n_cons (n_cons n_nil))) (da_cons (de_v 2) (da_cons (de_v 3) da_nil))) (n_cons (n_cons (n_cons n_nil)))))
  (db_one (ds_app (i := 5) (de_lst (da_cons (de_op opD_add (de_ix (de_v 7) de_int) (de_ix (de_v 8) de_int)) (da_cons (de_op opD_add (de_ix (de_v 7) de_int) (de_ix (de_v 8) de_int)) da_nil))))))))
  (db_cons (ds_frz 5 (ds_for po_of (di_seq (de_v 5)) (dg_name (i := 9) hN)
  (db_one (ds_if (dt_w (dw_or (dt_not (dt_val (de_d D__law_right (hr.mono (by decide)) (da_cons (de_v 2) (da_cons (de_ix (de_v 9) de_int) (da_cons (de_ix (de_v 9) de_int) da_nil))) (n_cons (n_cons (n_cons n_nil)))))) (dw_or1 (dt_not (dt_val (de_d D__law_right (hr.mono (by decide)) (da_cons (de_v 2) (da_cons (de_ix (de_v 9) de_int) (da_cons (de_ix (de_v 9) de_int) da_nil))) (n_cons (n_cons (n_cons n_nil)))))))))
  (db_one (ds_ret de_bl))
  db_nil))))
  (db_cons (ds_asg (i := 10) hN (de_op opD_add de_int (de_op opD_mod (de_ty crd_int g_int (by decide +kernel) (da_cons (de_ix (de_v 1) de_int) da_nil)) (de_op opD_sub (de_v 4) de_int))))
  (db_cons (ds_asg (i := 11) hN (de_op opD_shl de_int (de_op opD_add (de_v 2) (de_op opD_mod (de_ty crd_int g_int (by decide +kernel) (da_cons (de_ix (de_v 1) de_int) da_nil)) de_int))))
  (db_cons (ds_asg (i := 12) hN (de_lst (da_cons de_int (da_cons (de_v 4) (da_cons (de_op opD_add (de_v 4) (de_v 11)) (da_cons (de_v 11) (da_cons (de_un unD_neg de_int) (da_cons (de_un unD_neg de_int) (da_cons (de_op opD_sub (de_un unD_neg de_int) (de_v 10)) (da_cons de_bl (da_cons de_bl (da_cons de_non (da_cons de_str (da_cons de_str (da_cons de_str (da_cons (de_tup (da_cons de_int (da_cons de_int da_nil))) (da_cons (de_lst (da_cons (de_v 10) da_nil)) (da_cons (de_op opD_add (de_v 4) (de_op opD_shl de_int (de_v 2))) (da_cons (de_op opD_shl de_int (de_v 2)) (da_cons (de_un unD_neg (de_v 11)) (da_cons (de_tup (da_cons (de_v 10) da_nil)) da_nil)))))))))))))))))))))
  (db_cons (ds_asg (i := 13) hN (de_lst (da_cons de_int (da_cons (de_op opD_sub (de_v 4) de_int) (da_cons (de_op opD_add (de_op opD_sub (de_v 4) de_int) (de_v 11)) (da_cons (de_op opD_add de_int (de_v 11)) (da_cons de_int (da_cons (de_v 10) (da_cons (de_op opD_add (de_v 10) (de_v 11)) (da_cons de_int (da_cons de_int (da_cons (de_op opD_sub (de_v 4) de_int) (da_cons de_int (da_cons de_int (da_cons de_int (da_cons de_int (da_cons (de_v 10) (da_cons (de_op opD_add (de_op opD_sub (de_v 4) de_int) (de_op opD_shl de_int (de_v 2))) (da_cons (de_op opD_add de_int (de_op opD_shl de_int (de_v 2))) (da_cons (de_op opD_add de_int (de_v 11)) (da_cons (de_v 10) da_nil)))))))))))))))))))))
  (db_cons (ds_forX po_of (dif_rng1 (da_cons de_int da_nil) g_range) (dg_name (i := 6) hN)
  (db_one (ds_for po_of (di_seq (de_lst (da_cons (de_lst (da_cons (de_ix (de_v 12) (de_v 6)) (da_cons (de_v 10) da_nil))) (da_cons (de_lst (da_cons (de_op opD_add (de_v 10) (de_v 11)) (da_cons (de_ix (de_v 12) (de_v 6)) da_nil))) (da_cons (de_lst (da_cons (de_ix (de_v 12) (de_v 6)) (da_cons (de_ix (de_v 12) (de_ix (de_v 1) de_int)) da_nil))) (da_cons (de_lst (da_cons (de_ix (de_v 13) (de_v 6)) (da_cons (de_v 10) da_nil))) (da_cons (de_lst (da_cons (de_op opD_add (de_v 10) (de_v 11)) (da_cons (de_ix (de_v 13) (de_v 6)) da_nil))) (da_cons (de_lst (da_cons (de_ix (de_v 13) (de_v 6)) (da_cons (de_ix (de_v 13) (de_ix (de_v 1) de_int)) da_nil))) da_nil)))))))) (dg_name (i := 9) hN)
  (db_one (ds_if (dt_not (dt_val (de_d D__law_right (hr.mono (by decide)) (da_cons (de_v 2) (da_cons (de_ix (de_v 9) de_int) (da_cons (de_ix (de_v 9) de_int) da_nil))) (n_cons (n_cons (n_cons n_nil))))))
  (db_one (ds_ret de_bl))
  db_nil)))))
  (db_one (ds_retX (de_d D__law_right (hr.mono (by decide)) (da_cons (de_v 2) (da_cons (de_ix (de_ix (de_v 5) de_int) de_int) (da_cons (de_ix (de_ix (de_v 5) de_int) de_int) da_nil))) (n_cons (n_cons (n_cons n_nil))))))))))))))))))
end
/-! ### the head -/
def clNames_0 : List Str := ["TownError", "BadName", "DoubleName", "ZeroBottom", "BadStreet", "TooFewLanes", "BadLot", "OddPlace", "BadWay", "TooWide", "ThreeCross", "TwoCross", "NotCrossing", "NoStreet", "BadAmount", "NoPlace", "BadTable", "Unbalanced", "DoubleSide", "BadText", "BadQuestion", "BadEdit", "BadTrial", "NoStory", "NoPlanner"]
def clNames_1 : List Str := ["GatesDiffer", "CountsDiffer", "NetsDiffer", "BadLengths", "BadOrder", "BadPrices", "BadDistricts", "TooFewSides", "BadWares", "NothingToUndo", "NothingToRedo"]
def clNames : List Str := clNames_0 ++ clNames_1
abbrev s_init_BadLot : Stmt := mth (top 7) 0
abbrev s_init_TwoCross : Stmt := mth (top 12) 0
def fa_0 : List He.Fa := [.glo "_law_digits", .glo "_law_cell", .glo "_law_gates", .glo "_law_inner", .glo "_law_whole", .glo "_law_bit", .glo "_law_members", .glo "_law_improper", .glo "_law_cross", .glo "_law_side", .glo "_law_due", .glo "is_whole", .glo "is_lot", .glo "is_side_lot", .glo "sides_cross", .glo "side", .glo "uncrossed", .glo "_law_asked", .glo "_law_right", .glo "law", .glo "BadAmount", .glo "BadDistricts", .glo "BadEdit", .glo "BadLengths", .glo "BadLot"]
def fa_1 : List He.Fa := [.glo "BadName", .glo "BadOrder", .glo "BadPrices", .glo "BadQuestion", .glo "BadStreet", .glo "BadTable", .glo "BadText", .glo "BadTrial", .glo "BadWares", .glo "BadWay", .glo "CountsDiffer", .glo "DoubleName", .glo "DoubleSide", .glo "GatesDiffer", .glo "NetsDiffer", .glo "NoPlace", .glo "NoPlanner", .glo "NoStory", .glo "NoStreet", .glo "NotCrossing", .glo "NothingToRedo", .glo "NothingToUndo", .glo "OddPlace", .glo "ThreeCross", .glo "TooFewLanes"]
def fa_2 : List He.Fa := [.glo "TooFewSides", .glo "TooWide", .glo "TownError", .glo "TwoCross", .glo "Unbalanced", .glo "ZeroBottom", .free "bool", .free "int", .free "isinstance", .free "len", .free "range", .free "sum", .free "tuple", .noat "BadLot" "lot", .noat "TwoCross" "pair"]
def fa : List He.Fa := fa_0 ++ fa_1 ++ fa_2
def fn : List He.DefD := [⟨("_law_digits", none), "_law_digits", "_law_digits", defArgs s__law_digits, defBody s__law_digits, defScope s__law_digits, [], []⟩, ⟨("_law_cell", none), "_law_cell", "_law_cell", defArgs s__law_cell, defBody s__law_cell, defScope s__law_cell, [], []⟩, ⟨("_law_gates", none), "_law_gates", "_law_gates", defArgs s__law_gates, defBody s__law_gates, defScope s__law_gates, [], []⟩, ⟨("_law_inner", none), "_law_inner", "_law_inner", defArgs s__law_inner, defBody s__law_inner, defScope s__law_inner, [], []⟩, ⟨("_law_whole", none), "_law_whole", "_law_whole", defArgs s__law_whole, defBody s__law_whole, defScope s__law_whole, [], []⟩, ⟨("_law_bit", none), "_law_bit", "_law_bit", defArgs s__law_bit, defBody s__law_bit, defScope s__law_bit, [], []⟩, ⟨("_law_members", none), "_law_members", "_law_members", defArgs s__law_members, defBody s__law_members, defScope s__law_members, [], []⟩, ⟨("_law_improper", none), "_law_improper", "_law_improper", defArgs s__law_improper, defBody s__law_improper, defScope s__law_improper, [], []⟩, ⟨("_law_cross", none), "_law_cross", "_law_cross", defArgs s__law_cross, defBody s__law_cross, defScope s__law_cross, [], []⟩, ⟨("_law_side", none), "_law_side", "_law_side", defArgs s__law_side, defBody s__law_side, defScope s__law_side, [], []⟩, ⟨("_law_due", none), "_law_due", "_law_due", defArgs s__law_due, defBody s__law_due, defScope s__law_due, [], []⟩, ⟨("is_whole", none), "is_whole", "is_whole", defArgs s_is_whole, defBody s_is_whole, defScope s_is_whole, [], []⟩, ⟨("is_lot", none), "is_lot", "is_lot", defArgs s_is_lot, defBody s_is_lot, defScope s_is_lot, [], []⟩, ⟨("is_side_lot", none), "is_side_lot", "is_side_lot", defArgs s_is_side_lot, defBody s_is_side_lot, defScope s_is_side_lot, [], []⟩, ⟨("sides_cross", none), "sides_cross", "sides_cross", defArgs s_sides_cross, defBody s_sides_cross, defScope s_sides_cross, [], []⟩, ⟨("side", none), "side", "side", defArgs s_side, defBody s_side, defScope s_side, [], []⟩, ⟨("uncrossed", none), "uncrossed", "uncrossed", defArgs s_uncrossed, defBody s_uncrossed, defScope s_uncrossed, [], []⟩, ⟨("_law_asked", none), "_law_asked", "_law_asked", defArgs s__law_asked, defBody s__law_asked, defScope s__law_asked, [], []⟩, ⟨("_law_right", none), "_law_right", "_law_right", defArgs s__law_right, defBody s__law_right, defScope s__law_right, [], []⟩, ⟨("law", none), "law", "law", defArgs s_law, defBody s_law, defScope s_law, [], []⟩, ⟨("BadLot", some "__init__"), "__init__", "BadLot.__init__", defArgs s_init_BadLot, defBody s_init_BadLot, defScope s_init_BadLot, [], []⟩, ⟨("TwoCross", some "__init__"), "__init__", "TwoCross.__init__", defArgs s_init_TwoCross, defBody s_init_TwoCross, defScope s_init_TwoCross, [], []⟩]
def xs : List XF := [excB "BadLot", excB "TwoCross", iniB "BadLot", iniB "TwoCross", exmB clNames (([(0, true), (1, true), (2, true), (3, true), (4, true), (5, true), (6, true), (7, true), (8, true), (9, true), (10, true), (11, true), (12, true), (13, true), (14, true), (15, true), (16, true), (17, true), (18, true), (19, true), (20, true), (21, true), (22, true), (23, true), (24, true)] : List (Nat × Bool)) ++ ([(25, true), (26, true), (27, true), (28, true), (29, true), (30, true), (31, true), (32, true), (33, true), (34, true), (35, true)] : List (Nat × Bool))) (fun K => .ref (He.ga K "TownError")), kitaB clNames (([(0, false), (1, true), (2, false), (3, false), (4, true), (5, false), (6, false), (7, false), (8, false), (9, false), (10, false), (11, false), (12, false), (13, false), (14, true), (15, false), (16, true), (17, false), (18, false), (19, true), (20, true), (21, true), (22, false), (23, false), (24, false)] : List (Nat × Bool)) ++ ([(25, false), (26, false), (27, false), (28, true), (29, true), (30, true), (31, true), (32, false), (33, false), (34, false), (35, false)] : List (Nat × Bool))) (fun K => [.ref (He.ga K "BadAmount"), .ref (He.ga K "BadDistricts"), .ref (He.ga K "BadEdit"), .ref (He.ga K "BadLengths"), .ref (He.ga K "BadName"), .ref (He.ga K "BadOrder"), .ref (He.ga K "BadPrices"), .ref (He.ga K "BadQuestion"), .ref (He.ga K "BadStreet"), .ref (He.ga K "BadTable"), .ref (He.ga K "BadText")]), kitsB clNames (([(0, false), (1, false), (2, false), (3, false), (4, false), (5, false), (6, true), (7, false), (8, false), (9, false), (10, false), (11, false), (12, false), (13, false), (14, false), (15, false), (16, false), (17, false), (18, false), (19, false), (20, false), (21, false), (22, false), (23, false), (24, false)] : List (Nat × Bool)) ++ ([(25, false), (26, false), (27, false), (28, false), (29, false), (30, false), (31, false), (32, false), (33, false), (34, false), (35, false)] : List (Nat × Bool))) (fun K => .ref (He.ga K "BadLot")), kitaB clNames (([(0, false), (1, false), (2, true), (3, false), (4, false), (5, false), (6, false), (7, false), (8, true), (9, false), (10, false), (11, false), (12, false), (13, false), (14, false), (15, true), (16, false), (17, false), (18, true), (19, false), (20, false), (21, false), (22, true), (23, true), (24, true)] : List (Nat × Bool)) ++ ([(25, true), (26, true), (27, true), (28, false), (29, false), (30, false), (31, false), (32, false), (33, true), (34, false), (35, false)] : List (Nat × Bool))) (fun K => [.ref (He.ga K "BadTrial"), .ref (He.ga K "BadWares"), .ref (He.ga K "BadWay"), .ref (He.ga K "CountsDiffer"), .ref (He.ga K "DoubleName"), .ref (He.ga K "DoubleSide"), .ref (He.ga K "GatesDiffer"), .ref (He.ga K "NetsDiffer"), .ref (He.ga K "NoPlace"), .ref (He.ga K "NoPlanner"), .ref (He.ga K "NoStory")]), kitaB clNames (([(0, false), (1, false), (2, false), (3, true), (4, false), (5, true), (6, false), (7, true), (8, false), (9, true), (10, true), (11, false), (12, true), (13, true), (14, false), (15, false), (16, false), (17, true), (18, false), (19, false), (20, false), (21, false), (22, false), (23, false), (24, false)] : List (Nat × Bool)) ++ ([(25, false), (26, false), (27, false), (28, false), (29, false), (30, false), (31, false), (32, true), (33, false), (34, true), (35, true)] : List (Nat × Bool))) (fun K => [.ref (He.ga K "NoStreet"), .ref (He.ga K "NotCrossing"), .ref (He.ga K "NothingToRedo"), .ref (He.ga K "NothingToUndo"), .ref (He.ga K "OddPlace"), .ref (He.ga K "ThreeCross"), .ref (He.ga K "TooFewLanes"), .ref (He.ga K "TooFewSides"), .ref (He.ga K "TooWide"), .ref (He.ga K "Unbalanced"), .ref (He.ga K "ZeroBottom")]), kitsB clNames (([(0, false), (1, false), (2, false), (3, false), (4, false), (5, false), (6, false), (7, false), (8, false), (9, false), (10, false), (11, true), (12, false), (13, false), (14, false), (15, false), (16, false), (17, false), (18, false), (19, false), (20, false), (21, false), (22, false), (23, false), (24, false)] : List (Nat × Bool)) ++ ([(25, false), (26, false), (27, false), (28, false), (29, false), (30, false), (31, false), (32, false), (33, false), (34, false), (35, false)] : List (Nat × Bool))) (fun K => .ref (He.ga K "TwoCross"))]
abbrev R : PySem.W.OpenRow := PySem.W.OpenLaw.row PySem.Challenge.rw_fullsides_k31_uncrossed
abbrev hk : PySem.W.Hook := hookX 6 fa fn xs
def ob (s : PySem.W.SharedT) : He.AlD := obsXG 6 fa fn xs (HandSHeadRun.getT s)
theorem ob_eq (s : PySem.W.SharedT) : ob s = hk.obs s.abs := obsXG_eq (HandSHeadRun.getT_eq s)
def loose0 : List Str := ["TownError", "BadName", "DoubleName", "ZeroBottom", "BadStreet", "TooFewLanes", "BadLot", "OddPlace", "BadWay", "TooWide", "ThreeCross", "TwoCross", "NotCrossing", "NoStreet", "BadAmount", "NoPlace", "BadTable", "Unbalanced", "DoubleSide", "BadText", "BadQuestion", "BadEdit", "BadTrial", "NoStory", "NoPlanner", "GatesDiffer", "CountsDiffer", "NetsDiffer", "BadLengths", "BadOrder"]
def loose1 : List Str := ["BadPrices", "BadDistricts", "TooFewSides", "BadWares", "NothingToUndo", "NothingToRedo", "is_whole", "is_lot", "is_side_lot", "side", "sides_cross", "uncrossed", "_law_whole", "_law_cell", "_law_digits", "_law_bit", "_law_members", "_law_side", "_law_cross", "_law_gates", "_law_inner", "_law_improper", "_law_due", "_law_asked", "_law_right"]
def loose : List Str := loose0 ++ loose1
theorem topRun (w : World) : HandSHeadRun.RunEq R (PySem.W.view R.prog [60]) hk ob 14000 loose w := by
  intro os
  kernel_rfl
theorem facts {Pr : Program} {w : World} {K : PySem.W.Frag} {h : Heap} {mg : Str → Option Value} {f : Addr} (X : K.In h) (G : h.Ns mainGlobals mg) (hfa : mg ("law" : Str) = some (.ref f)) (c : SaysX fa fn xs K) :
    ∃ fd : FuncData, (∀ (s : Shared) (v : Value), BindsTo s fd ⟨[v], []⟩ [("script", v)]) ∧ ∀ base : Heap, K.In base → base.Ns mainGlobals mg → FnOk Pr w K mg base (L2.CX Pr w) 7 f fd ["script"] (spT ⟨K, clOf clNames K⟩ 1 f_law) := by
  obtain ⟨fd__law_digits, F__law_digits⟩ := c.def_ 0 rfl
  have m__law_digits := He.glo_ok X G (c.fact 0 (f := .glo "_law_digits") rfl)
  obtain ⟨fd__law_cell, F__law_cell⟩ := c.def_ 1 rfl
  have m__law_cell := He.glo_ok X G (c.fact 1 (f := .glo "_law_cell") rfl)
  obtain ⟨fd__law_gates, F__law_gates⟩ := c.def_ 2 rfl
  have m__law_gates := He.glo_ok X G (c.fact 2 (f := .glo "_law_gates") rfl)
  obtain ⟨fd__law_inner, F__law_inner⟩ := c.def_ 3 rfl
  have m__law_inner := He.glo_ok X G (c.fact 3 (f := .glo "_law_inner") rfl)
  obtain ⟨fd__law_whole, F__law_whole⟩ := c.def_ 4 rfl
  have m__law_whole := He.glo_ok X G (c.fact 4 (f := .glo "_law_whole") rfl)
  obtain ⟨fd__law_bit, F__law_bit⟩ := c.def_ 5 rfl
  have m__law_bit := He.glo_ok X G (c.fact 5 (f := .glo "_law_bit") rfl)
  obtain ⟨fd__law_members, F__law_members⟩ := c.def_ 6 rfl
  have m__law_members := He.glo_ok X G (c.fact 6 (f := .glo "_law_members") rfl)
  obtain ⟨fd__law_improper, F__law_improper⟩ := c.def_ 7 rfl
  have m__law_improper := He.glo_ok X G (c.fact 7 (f := .glo "_law_improper") rfl)
  obtain ⟨fd__law_cross, F__law_cross⟩ := c.def_ 8 rfl
  have m__law_cross := He.glo_ok X G (c.fact 8 (f := .glo "_law_cross") rfl)
  obtain ⟨fd__law_side, F__law_side⟩ := c.def_ 9 rfl
  have m__law_side := He.glo_ok X G (c.fact 9 (f := .glo "_law_side") rfl)
  obtain ⟨fd__law_due, F__law_due⟩ := c.def_ 10 rfl
  have m__law_due := He.glo_ok X G (c.fact 10 (f := .glo "_law_due") rfl)
  obtain ⟨fd_is_whole, F_is_whole⟩ := c.def_ 11 rfl
  have m_is_whole := He.glo_ok X G (c.fact 11 (f := .glo "is_whole") rfl)
  obtain ⟨fd_is_lot, F_is_lot⟩ := c.def_ 12 rfl
  have m_is_lot := He.glo_ok X G (c.fact 12 (f := .glo "is_lot") rfl)
  obtain ⟨fd_is_side_lot, F_is_side_lot⟩ := c.def_ 13 rfl
  have m_is_side_lot := He.glo_ok X G (c.fact 13 (f := .glo "is_side_lot") rfl)
  obtain ⟨fd_sides_cross, F_sides_cross⟩ := c.def_ 14 rfl
  have m_sides_cross := He.glo_ok X G (c.fact 14 (f := .glo "sides_cross") rfl)
  obtain ⟨fd_side, F_side⟩ := c.def_ 15 rfl
  have m_side := He.glo_ok X G (c.fact 15 (f := .glo "side") rfl)
  obtain ⟨fd_uncrossed, F_uncrossed⟩ := c.def_ 16 rfl
  have m_uncrossed := He.glo_ok X G (c.fact 16 (f := .glo "uncrossed") rfl)
  obtain ⟨fd__law_asked, F__law_asked⟩ := c.def_ 17 rfl
  have m__law_asked := He.glo_ok X G (c.fact 17 (f := .glo "_law_asked") rfl)
  obtain ⟨fd__law_right, F__law_right⟩ := c.def_ 18 rfl
  have m__law_right := He.glo_ok X G (c.fact 18 (f := .glo "_law_right") rfl)
  obtain ⟨fd_law, F_law⟩ := c.def_ 19 rfl
  have m_law := He.glo_ok X G (c.fact 19 (f := .glo "law") rfl)
  have m_BadAmount := He.glo_ok X G (c.fact 20 (f := .glo "BadAmount") rfl)
  have m_BadDistricts := He.glo_ok X G (c.fact 21 (f := .glo "BadDistricts") rfl)
  have m_BadEdit := He.glo_ok X G (c.fact 22 (f := .glo "BadEdit") rfl)
  have m_BadLengths := He.glo_ok X G (c.fact 23 (f := .glo "BadLengths") rfl)
  have m_BadLot := He.glo_ok X G (c.fact 24 (f := .glo "BadLot") rfl)
  have m_BadName := He.glo_ok X G (c.fact 25 (f := .glo "BadName") rfl)
  have m_BadOrder := He.glo_ok X G (c.fact 26 (f := .glo "BadOrder") rfl)
  have m_BadPrices := He.glo_ok X G (c.fact 27 (f := .glo "BadPrices") rfl)
  have m_BadQuestion := He.glo_ok X G (c.fact 28 (f := .glo "BadQuestion") rfl)
  have m_BadStreet := He.glo_ok X G (c.fact 29 (f := .glo "BadStreet") rfl)
  have m_BadTable := He.glo_ok X G (c.fact 30 (f := .glo "BadTable") rfl)
  have m_BadText := He.glo_ok X G (c.fact 31 (f := .glo "BadText") rfl)
  have m_BadTrial := He.glo_ok X G (c.fact 32 (f := .glo "BadTrial") rfl)
  have m_BadWares := He.glo_ok X G (c.fact 33 (f := .glo "BadWares") rfl)
  have m_BadWay := He.glo_ok X G (c.fact 34 (f := .glo "BadWay") rfl)
  have m_CountsDiffer := He.glo_ok X G (c.fact 35 (f := .glo "CountsDiffer") rfl)
  have m_DoubleName := He.glo_ok X G (c.fact 36 (f := .glo "DoubleName") rfl)
  have m_DoubleSide := He.glo_ok X G (c.fact 37 (f := .glo "DoubleSide") rfl)
  have m_GatesDiffer := He.glo_ok X G (c.fact 38 (f := .glo "GatesDiffer") rfl)
  have m_NetsDiffer := He.glo_ok X G (c.fact 39 (f := .glo "NetsDiffer") rfl)
  have m_NoPlace := He.glo_ok X G (c.fact 40 (f := .glo "NoPlace") rfl)
  have m_NoPlanner := He.glo_ok X G (c.fact 41 (f := .glo "NoPlanner") rfl)
  have m_NoStory := He.glo_ok X G (c.fact 42 (f := .glo "NoStory") rfl)
  have m_NoStreet := He.glo_ok X G (c.fact 43 (f := .glo "NoStreet") rfl)
  have m_NotCrossing := He.glo_ok X G (c.fact 44 (f := .glo "NotCrossing") rfl)
  have m_NothingToRedo := He.glo_ok X G (c.fact 45 (f := .glo "NothingToRedo") rfl)
  have m_NothingToUndo := He.glo_ok X G (c.fact 46 (f := .glo "NothingToUndo") rfl)
  have m_OddPlace := He.glo_ok X G (c.fact 47 (f := .glo "OddPlace") rfl)
  have m_ThreeCross := He.glo_ok X G (c.fact 48 (f := .glo "ThreeCross") rfl)
  have m_TooFewLanes := He.glo_ok X G (c.fact 49 (f := .glo "TooFewLanes") rfl)
  have m_TooFewSides := He.glo_ok X G (c.fact 50 (f := .glo "TooFewSides") rfl)
  have m_TooWide := He.glo_ok X G (c.fact 51 (f := .glo "TooWide") rfl)
  have m_TownError := He.glo_ok X G (c.fact 52 (f := .glo "TownError") rfl)
  have m_TwoCross := He.glo_ok X G (c.fact 53 (f := .glo "TwoCross") rfl)
  have m_Unbalanced := He.glo_ok X G (c.fact 54 (f := .glo "Unbalanced") rfl)
  have m_ZeroBottom := He.glo_ok X G (c.fact 55 (f := .glo "ZeroBottom") rfl)
  have g_bool := He.free_ok X G (c.fact 56 (f := .free "bool") rfl)
  have g_int := He.free_ok X G (c.fact 57 (f := .free "int") rfl)
  have g_isinstance := He.free_ok X G (c.fact 58 (f := .free "isinstance") rfl)
  have g_len := He.free_ok X G (c.fact 59 (f := .free "len") rfl)
  have g_range := He.free_ok X G (c.fact 60 (f := .free "range") rfl)
  have g_sum := He.free_ok X G (c.fact 61 (f := .free "sum") rfl)
  have g_tuple := He.free_ok X G (c.fact 62 (f := .free "tuple") rfl)
  obtain ⟨ox_BadLot, is_BadLot, xf_BadLot⟩ := excB_ok (c.x 0 rfl)
  obtain ⟨ox_TwoCross, is_TwoCross, xf_TwoCross⟩ := excB_ok (c.x 1 rfl)
  have e_TownError := exmB_ok (ns := clNames) (c.x 4 rfl)
  have i_BadAmount_BadDistricts_BadEdit_BadLengths_BadName_BadOrder_BadPrices_BadQuestion_BadStreet_BadTable_BadText := kitaB_ok (ns := clNames) (c.x 5 rfl)
  have i_BadLot := kitsB_ok (ns := clNames) (c.x 6 rfl)
  have i_BadTrial_BadWares_BadWay_CountsDiffer_DoubleName_DoubleSide_GatesDiffer_NetsDiffer_NoPlace_NoPlanner_NoStory := kitaB_ok (ns := clNames) (c.x 7 rfl)
  have i_NoStreet_NotCrossing_NothingToRedo_NothingToUndo_OddPlace_ThreeCross_TooFewLanes_TooFewSides_TooWide_Unbalanced_ZeroBottom := kitaB_ok (ns := clNames) (c.x 8 rfl)
  have i_TwoCross := kitsB_ok (ns := clNames) (c.x 9 rfl)
  have na_BadLot_lot := He.noat_ok (c.fact 63 (f := .noat "BadLot" "lot") rfl)
  have na_TwoCross_pair := He.noat_ok (c.fact 64 (f := .noat "TwoCross" "pair") rfl)
  obtain ⟨fdI_BadLot, FI_BadLot⟩ := c.def_ 20 rfl
  obtain ⟨iC_BadLot, tI_BadLot⟩ := iniB_ok (c.x 2 rfl)
  have nx_BadLot_lot := He.noat_ok (c.fact 63 (f := .noat "BadLot" "lot") rfl)
  have x_BadLot : ∀ base : Heap, Xok (clOf clNames K) Pr w K mg base "BadLot" 6 ["lot"] := fun base =>
    xok1 (N := ["self", "lot"]) FI_BadLot ⟨rfl, rfl, rfl, by decide +kernel, rfl, by decide +kernel, by decide +kernel⟩ ox_BadLot iC_BadLot tI_BadLot nx_BadLot_lot m_BadLot rfl (fun _ _ _ _ _ _ us hl => match us, hl with | [_, _], _ => rfl) (fun cdv A outer s H E => pss_one (ps_ost (pe_var (i := 0) rfl (.inl rfl)) (pe_var (i := 1) rfl (.inl rfl))))
  obtain ⟨fdI_TwoCross, FI_TwoCross⟩ := c.def_ 21 rfl
  obtain ⟨iC_TwoCross, tI_TwoCross⟩ := iniB_ok (c.x 3 rfl)
  have nx_TwoCross_pair := He.noat_ok (c.fact 64 (f := .noat "TwoCross" "pair") rfl)
  have x_TwoCross : ∀ base : Heap, Xok (clOf clNames K) Pr w K mg base "TwoCross" 11 ["pair"] := fun base =>
    xok1 (N := ["self", "pair"]) FI_TwoCross ⟨rfl, rfl, rfl, by decide +kernel, rfl, by decide +kernel, by decide +kernel⟩ ox_TwoCross iC_TwoCross tI_TwoCross nx_TwoCross_pair m_TwoCross rfl (fun _ _ _ _ _ _ us hl => match us, hl with | [_, _], _ => rfl) (fun cdv A outer s H E => pss_one (ps_ost (pe_var (i := 0) rfl (.inl rfl)) (pe_var (i := 1) rfl (.inl rfl))))
  have e := hfa.symm.trans m_law
  cases e
  have b := FunD.bindsA (ps := ["script"]) F_law fun _ _ _ _ _ _ us hl => match us, hl with | [_], _ => rfl
  refine ⟨fd_law, fun s v => b s [v] rfl, fun base _ _ => ?_⟩
  have D__law_digits := ok__law_digits (cl := clOf clNames K) (Pr := Pr) (w := w) (K := K) (mg := mg) (base := base) F__law_digits m__law_digits g_int g_len g_range
  have D__law_cell := ok__law_cell (cl := clOf clNames K) (Pr := Pr) (w := w) (K := K) (mg := mg) (base := base) F__law_cell m__law_cell g_int g_len
  have D__law_gates := ok__law_gates (cl := clOf clNames K) (Pr := Pr) (w := w) (K := K) (mg := mg) (base := base) F__law_gates m__law_gates D__law_digits g_int g_len g_range
  have D__law_inner := ok__law_inner (cl := clOf clNames K) (Pr := Pr) (w := w) (K := K) (mg := mg) (base := base) F__law_inner m__law_inner D__law_digits g_int g_range
  have D__law_whole := ok__law_whole (cl := clOf clNames K) (Pr := Pr) (w := w) (K := K) (mg := mg) (base := base) F__law_whole m__law_whole g_bool g_int g_isinstance
  have D__law_bit := ok__law_bit (cl := clOf clNames K) (Pr := Pr) (w := w) (K := K) (mg := mg) (base := base) F__law_bit m__law_bit g_int
  have D__law_members := ok__law_members (cl := clOf clNames K) (Pr := Pr) (w := w) (K := K) (mg := mg) (base := base) F__law_members m__law_members D__law_bit g_range
  have D__law_improper := ok__law_improper (cl := clOf clNames K) (Pr := Pr) (w := w) (K := K) (mg := mg) (base := base) F__law_improper m__law_improper D__law_members D__law_whole g_range
  have D__law_cross := ok__law_cross (cl := clOf clNames K) (Pr := Pr) (w := w) (K := K) (mg := mg) (base := base) F__law_cross m__law_cross D__law_bit g_range
  have D__law_side := ok__law_side (cl := clOf clNames K) (Pr := Pr) (w := w) (K := K) (mg := mg) (base := base) F__law_side m__law_side D__law_bit
  have D__law_due := ok__law_due (cl := clOf clNames K) (Pr := Pr) (w := w) (K := K) (mg := mg) (base := base) F__law_due m__law_due D__law_cross D__law_improper D__law_members D__law_side g_range g_sum
  have D_is_whole := ok_is_whole (cl := clOf clNames K) (Pr := Pr) (w := w) (K := K) (mg := mg) (base := base) F_is_whole m_is_whole g_bool g_int g_isinstance
  have D_is_lot := ok_is_lot (cl := clOf clNames K) (Pr := Pr) (w := w) (K := K) (mg := mg) (base := base) F_is_lot m_is_lot D_is_whole
  have D_is_side_lot := ok_is_side_lot (cl := clOf clNames K) (Pr := Pr) (w := w) (K := K) (mg := mg) (base := base) F_is_side_lot m_is_side_lot D_is_whole
  have D_sides_cross := ok_sides_cross (cl := clOf clNames K) (Pr := Pr) (w := w) (K := K) (mg := mg) (base := base) F_sides_cross m_sides_cross 
  have D_side := ok_side (cl := clOf clNames K) (Pr := Pr) (w := w) (K := K) (mg := mg) (base := base) F_side m_side D_is_side_lot (x_BadLot base)
  have D_uncrossed := ok_uncrossed (cl := clOf clNames K) (Pr := Pr) (w := w) (K := K) (mg := mg) (base := base) F_uncrossed m_uncrossed D_is_lot D_is_side_lot D_side D_sides_cross (x_BadLot base) (x_TwoCross base)
  have D__law_asked := ok__law_asked (cl := clOf clNames K) (Pr := Pr) (w := w) (K := K) (mg := mg) (base := base) F__law_asked m__law_asked D_uncrossed g_isinstance m_BadAmount m_BadDistricts m_BadEdit m_BadLengths m_BadLot m_BadName m_BadOrder m_BadPrices m_BadQuestion m_BadStreet m_BadTable m_BadText m_BadTrial m_BadWares m_BadWay m_CountsDiffer m_DoubleName m_DoubleSide m_GatesDiffer m_NetsDiffer m_NoPlace m_NoPlanner m_NoStory m_NoStreet m_NotCrossing m_NothingToRedo m_NothingToUndo m_OddPlace m_ThreeCross m_TooFewLanes m_TooFewSides m_TooWide m_TownError m_TwoCross m_Unbalanced m_ZeroBottom e_TownError i_BadAmount_BadDistricts_BadEdit_BadLengths_BadName_BadOrder_BadPrices_BadQuestion_BadStreet_BadTable_BadText i_BadLot i_BadTrial_BadWares_BadWay_CountsDiffer_DoubleName_DoubleSide_GatesDiffer_NetsDiffer_NoPlace_NoPlanner_NoStory i_NoStreet_NotCrossing_NothingToRedo_NothingToUndo_OddPlace_ThreeCross_TooFewLanes_TooFewSides_TooWide_Unbalanced_ZeroBottom i_TwoCross xf_BadLot xf_TwoCross na_BadLot_lot na_TwoCross_pair rfl
  have D__law_right := ok__law_right (cl := clOf clNames K) (Pr := Pr) (w := w) (K := K) (mg := mg) (base := base) F__law_right m__law_right D__law_asked D__law_due D__law_whole g_bool g_isinstance g_len g_tuple
  exact okF_law F_law D__law_cell D__law_digits D__law_gates D__law_inner D__law_right g_int g_range
end Lw
section
open PySem PySem.W PySem.Calls PyProof.Rows
theorem lw_holds (pure : ∀ ns : List Int, ns.length ≤ 63 → Lw.f_law 1 [.ro (ns.map Py.T.int)] = .ok (.bl true)) : PySem.Challenge.rw_fullsides_k31_uncrossed.Holds := by
  w_on; o_law
  refine HandSHeadRun.head_any (r := OpenLaw.row PySem.Challenge.rw_fullsides_k31_uncrossed) (q := view (OpenLaw.row PySem.Challenge.rw_fullsides_k31_uncrossed).prog [60]) (H := Lw.hk) (ob := Lw.ob) (M := 14000) (loose := Lw.loose) (d := HandSHeadRun.topDef (OpenLaw.row PySem.Challenge.rw_fullsides_k31_uncrossed).prog 60) (kwd := []) Lw.ob_eq
    (by kernel_rfl) (fun s => by kernel_rfl) Lw.topRun (by kernel_rfl) (by kernel_rfl) (by kernel_rfl) (by rfl) (by first | assumption | decide +kernel) (by decide +kernel) ⟨rfl, rfl, rfl, rfl, rfl, by decide +kernel⟩ ?hw ?hc
  case hw => w_witness2
  case hc =>
    refine Py.walk_end (l := PySem.Challenge.rw_fullsides_k31_uncrossed) (n := 63) (k := 7) (x := "script") rfl (by decide) (by kernel_rfl) ⟨rfl, by decide, by decide⟩ ?F
    intro w mg fa h Y G hmg0
    obtain ⟨K, KX, c⟩ := Y
    have hmg : mg ("law" : PySem.Str) = some (.ref fa) := by
      have e : (HandSHeadRun.topDef (OpenLaw.row PySem.Challenge.rw_fullsides_k31_uncrossed).prog 60).name = ("law" : PySem.Str) := by kernel_rfl
      rw [← e]
      exact hmg0
    obtain ⟨fd, hb, hF⟩ := Lw.facts (Pr := (PySem.Challenge.rw_fullsides_k31_uncrossed).prog) (w := w) KX G hmg c
    exact ⟨K, fd, Py.spT _ 1 Lw.f_law, KX, hb, fun H a ns hl _ _ hS => Py.law_end (pure ns hl) hS, hF⟩
end
namespace Lw
end Lw

set_option Elab.async false
set_option linter.all false
set_option maxRecDepth 100000
set_option maxHeartbeats 4000000
namespace Lw
open PySem L2 Py
theorem cell_eq (d : Nat) (ts : List T) : f__law_cell d ts = Py.run 4 (LL.S_cell d) ts := rfl
theorem digits_eq (d : Nat) (ts : List T) : f__law_digits d ts = Py.run 8 (LL.S_digits d) ts := rfl
theorem bit_eq : f__law_bit = LL.f_bit := rfl
theorem members_eq : f__law_members = LL.f_members := rfl
theorem whole_eq : f__law_whole = LL.f_whole := rfl
theorem whole_eq2 : f_is_whole = LL.f_whole := rfl
theorem lside_eq : f__law_side = LL.f_lside := rfl
/-- values that are no lots -/
inductive NoLot : T → Prop where
  | neg {i : Int} (h : i < 0) : NoLot (.int i)
  | bl (b : Bool) : NoLot (.bl b)
  | str (b : Str) : NoLot (.str b)
  | non : NoLot .non
  | lst (g : Option Tag) (ts : List T) : NoLot (.lst g ts)
  | tup (ts : List T) : NoLot (.tup ts)
/-- bad lots: no lots, or lots of no gate or of all -/
inductive Bad (g : Nat) : T → Prop where
  | no {t : T} (h : NoLot t) : Bad g t
  | ev (a : Nat) (h : a % 2 ^ g = 0 ∨ a % 2 ^ g = 2 ^ g - 1) : Bad g (.int (a : Int))
def Good (g a : Nat) : Prop := 0 < a % 2 ^ g ∧ a % 2 ^ g < 2 ^ g - 1
theorem mem_nil {g a : Nat} : mem g a = [] ↔ a % 2 ^ g = 0 := by
  rw [← sumB_bits, sumB_zero]
  unfold mem
  rw [List.filter_eq_nil_iff]
  simp
theorem mem_all {g a : Nat} : mem g a = List.range g ↔ a % 2 ^ g = 2 ^ g - 1 := by
  rw [← sumB_bits, sumB_full]
  unfold mem
  rw [List.filter_eq_self]
  simp
theorem eq_nats0 (l : List Nat) (g : Option Tag) : T.eq (.lst g (l.map nT)) (.lst none []) = some (.bl (l == [])) := eq_nats l [] g none
/-! ### the law's own look -/
theorem rangeC {d g : Nat} (e2 : Fv) (hg : g ≤ 1000) (x y : T) : P.turnsC (S.tName 2) P.yes (P.var d 2) [some (.fz x), some (.fz y), none] (rng 0 g) = .ok ((List.range g).map nT) := by
  have e0 : rng 0 g = (List.range g).map fun (k : Nat) => T.int (0 + (k : Int)) := rfl
  have hc := turnsC_map (tg := S.tName 2) (b := P.yes) (p := P.var d 2) (env := [some (.fz x), some (.fz y), none]) (g := fun (k : Nat) => T.int (0 + (k : Int))) (c := fun _ => true) (f := nT) (List.range g) (fun k _ => ⟨_, rfl, rfl, fun _ => by simp⟩)
  rw [e0, hc, List.filter_eq_self.mpr (fun _ _ => rfl)]
theorem imp_no {d g : Nat} {t : T} (h : NoLot t) : f__law_improper d [.int (g : Int), t] = .ok (.bl true) := by
  cases h with
  | neg h => simp [f__law_improper, run_eq, ent_eq, S__law_improper, whole_eq, whole_int, h]
  | bl b => simp [f__law_improper, run_eq, ent_eq, S__law_improper, whole_eq, whole_bl]
  | str b => simp [f__law_improper, run_eq, ent_eq, S__law_improper, whole_eq, whole_str]
  | non => simp [f__law_improper, run_eq, ent_eq, S__law_improper, whole_eq, whole_non]
  | lst g ts => simp [f__law_improper, run_eq, ent_eq, S__law_improper, whole_eq, whole_lst]
  | tup ts => simp [f__law_improper, run_eq, ent_eq, S__law_improper, whole_eq, whole_tup]
theorem imp_nat {d g a : Nat} (hg : g ≤ 1000) : f__law_improper d [.int (g : Int), .int (a : Int)] = .ok (.bl (mem g a == [] || mem g a == List.range g)) := by
  have hr : rfit (g : Int) = true := rfit_ok (by omega) (by omega)
  have hl : (rng 0 g).length ≤ 1000000 := by simp [rng]; omega
  have hm := members_ev (d + 1) a g hg
  have hn : ¬ (a : Int) < 0 := by omega
  cases c : (mem g a == []) with
  | true => simp [f__law_improper, run_eq, ent_eq, S__law_improper, whole_eq, whole_int, hn, members_eq, hm, eq_nats0, c, lfit_ok]
  | false => simp [f__law_improper, run_eq, ent_eq, S__law_improper, whole_eq, whole_int, hn, members_eq, hm, eq_nats0, c, lfit_ok, hr, hl, rangeC [] hg, eq_nats]
theorem imp_bad {d g : Nat} {t : T} (hg : g ≤ 1000) (h : Bad g t) : f__law_improper d [.int (g : Int), t] = .ok (.bl true) := by
  cases h with
  | no h => exact imp_no h
  | ev a h =>
    rw [imp_nat hg]
    rcases h with h | h
    · rw [beq_iff_eq.mpr (mem_nil.mpr h)]; rfl
    · rw [beq_iff_eq.mpr (mem_all.mpr h), Bool.or_true]
theorem imp_good {d g a : Nat} (hg : g ≤ 1000) (h : Good g a) : f__law_improper d [.int (g : Int), .int (a : Int)] = .ok (.bl false) := by
  rw [imp_nat hg]
  obtain ⟨h1, h2⟩ := h
  have c1 : (mem g a == []) = false := beq_eq_false_iff_ne.mpr fun z => by have := mem_nil.mp z; omega
  have c2 : (mem g a == List.range g) = false := beq_eq_false_iff_ne.mpr fun z => by have := mem_all.mp z; omega
  rw [c1, c2]
  rfl
/-! ### the program -/
theorem lot_no {d : Nat} {t : T} (h : NoLot t) : f_is_lot d [t] = .ok (.bl false) := by
  cases h with
  | neg h => simp [f_is_lot, run_eq, ent_eq, S_is_lot, whole_eq2, whole_int]; omega
  | bl b => simp [f_is_lot, run_eq, ent_eq, S_is_lot, whole_eq2, whole_bl]
  | str b => simp [f_is_lot, run_eq, ent_eq, S_is_lot, whole_eq2, whole_str]
  | non => simp [f_is_lot, run_eq, ent_eq, S_is_lot, whole_eq2, whole_non]
  | lst g ts => simp [f_is_lot, run_eq, ent_eq, S_is_lot, whole_eq2, whole_lst]
  | tup ts => simp [f_is_lot, run_eq, ent_eq, S_is_lot, whole_eq2, whole_tup]
theorem lot_nat {d a : Nat} : f_is_lot d [.int (a : Int)] = .ok (.bl true) := by
  simp [f_is_lot, run_eq, ent_eq, S_is_lot, whole_eq2, whole_int]
theorem sl_nat {d g x : Nat} (hg : g ≤ 1000) : f_is_side_lot d [.int (g : Int), .int (x : Int)] = .ok (.bl (decide (0 < x) && decide (x < 2 ^ g - 1))) := by
  have hs := shl_one (j := (g : Int)) (by omega) (by omega)
  have hp : ((2 ^ g : Nat) : Int) = 2 ^ g := by simp
  have h2 := Nat.two_pow_pos g
  by_cases h : 0 < x
  · have h' : (0 : Int) < (x : Int) := by omega
    have e : ((x : Int) < 2 ^ g - 1) ↔ x < 2 ^ g - 1 := by omega
    simp [f_is_side_lot, run_eq, ent_eq, S_is_side_lot, whole_eq2, whole_int, hs, h, h', e]
  · have h' : ¬ (0 : Int) < (x : Int) := by omega
    simp [f_is_side_lot, run_eq, ent_eq, S_is_side_lot, whole_eq2, whole_int, hs, h, h']
theorem and_full {a g : Nat} : a &&& (2 ^ g - 1) = a % 2 ^ g := Nat.and_two_pow_sub_one_eq_mod a g
theorem band_full {a g : Nat} : Builtin.bitAnd (a : Int) (2 ^ g - 1) = ((a % 2 ^ g : Nat) : Int) := by
  have hp : ((2 ^ g : Nat) : Int) = 2 ^ g := by simp
  have h2 := Nat.two_pow_pos g
  have e : (2 : Int) ^ g - 1 = ((2 ^ g - 1 : Nat) : Int) := by omega
  rw [e, bAnd, and_full]
theorem side_nat {d g x : Nat} (hg : g ≤ 1000) (h1 : 0 < x) (h2 : x < 2 ^ g - 1) : f_side d [.int (g : Int), .int (x : Int)] = .ok (.int (sideN g x : Nat)) := by
  have hl := sl_nat (d := d + 1) (x := x) hg
  have hs := shl_one (j := (g : Int)) (by omega) (by omega)
  have hp : ((2 ^ g : Nat) : Int) = 2 ^ g := by simp
  have e1 : Builtin.bitAnd (x : Int) 1 = ((x % 2 : Nat) : Int) := by
    have := bAnd x 1
    rw [Nat.and_one_is_mod] at this
    exact this
  have e2 : (2 : Int) ^ g - 1 - (x : Int) = ((2 ^ g - 1 - x : Nat) : Int) := by omega
  have e3 : x.testBit 0 = decide (x % 2 = 1) := Nat.testBit_zero x
  by_cases c : x % 2 = 1
  · simp [f_side, run_eq, ent_eq, S_side, hl, h1, h2, e1, hs, c, sideN, e3, e2]
  · have c0 : x % 2 = 0 := by omega
    simp [f_side, run_eq, ent_eq, S_side, hl, h1, h2, e1, hs, c0, sideN, e3]
def crN (g x y : Nat) : Bool := !decide (x &&& y = 0) && (!decide (nDiff x y = 0) && (!decide (nDiff y x = 0) && !decide (2 ^ g - 1 - (x ||| y) = 0)))
theorem cr_nat {d g x y : Nat} (hg : g ≤ 1000) (hx : x < 2 ^ g) (hy : y < 2 ^ g) : f_sides_cross d [.int (g : Int), .int (x : Int), .int (y : Int)] = .ok (.bl (crN g x y)) := by
  have hs := shl_one (j := (g : Int)) (by omega) (by omega)
  have hp : ((2 ^ g : Nat) : Int) = 2 ^ g := by simp
  have ho : x ||| y < 2 ^ g := Nat.or_lt_two_pow hx hy
  have e : (2 : Int) ^ g - 1 - ((x ||| y : Nat) : Int) = ((2 ^ g - 1 - (x ||| y) : Nat) : Int) := by omega
  have z : ∀ n : Nat, ((n : Int) = 0) ↔ n = 0 := fun n => by omega
  unfold crN
  by_cases k1 : x &&& y = 0
  · simp [f_sides_cross, run_eq, ent_eq, S_sides_cross, hs, bAnd, bOr, bDiff, e, z, k1]
  · by_cases k2 : nDiff x y = 0
    · simp [f_sides_cross, run_eq, ent_eq, S_sides_cross, hs, bAnd, bOr, bDiff, e, z, k1, k2]
    · by_cases k3 : nDiff y x = 0
      · simp [f_sides_cross, run_eq, ent_eq, S_sides_cross, hs, bAnd, bOr, bDiff, e, z, k1, k2, k3]
      · simp [f_sides_cross, run_eq, ent_eq, S_sides_cross, hs, bAnd, bOr, bDiff, e, z, k1, k2, k3]
end Lw

set_option Elab.async false
set_option linter.all false
set_option maxRecDepth 100000
set_option maxHeartbeats 4000000
namespace Lw
open PySem L2 Py
def loopK (k : Fv → RS) : RS → RS
  | .nx env => k env
  | .ct env => k env
  | .br env => .nx env
  | r => r
theorem turns_nil' {tg : T → Fv → Option Fv} {body : Sx} {env : Fv} : S.turns tg body [] env = .nx env := nrfl rfl
theorem turns_cons' {tg : T → Fv → Option Fv} {body : Sx} {t : T} {ts : List T} {env e1 : Fv} (h : tg t env = some e1) : S.turns tg body (t :: ts) env = loopK (S.turns tg body ts) (body e1) := by
  show (match tg t env with
      | some env1 => (match body env1 with
        | .nx env => S.turns tg body ts env
        | .ct env => S.turns tg body ts env
        | .br env => .nx env
        | r => r)
      | none => .stuck) = _
  rw [h]
  show (match body e1 with
        | .nx env => S.turns tg body ts env
        | .ct env => S.turns tg body ts env
        | .br env => .nx env
        | r => r) = _
  cases body e1 <;> rfl
@[simp] theorem loopK_nx {k : Fv → RS} {env : Fv} : loopK k (.nx env) = k env := nrfl rfl
@[simp] theorem loopK_er {k : Fv → RS} {e : Exn} {env : Fv} : loopK k (.er e env) = .er e env := nrfl rfl
@[simp] theorem loopK_rt {k : Fv → RS} {t : T} : loopK k (.rt t) = .rt t := nrfl rfl
theorem unc_bad1 {d g : Nat} {t u : T} (hg : g ≤ 1000) (h : Bad g t) : f_uncrossed d [.int (g : Int), t, u] = .er ⟨6, ["lot"], [t]⟩ := by
  have hs := shl_one (j := (g : Int)) (by omega) (by omega)
  cases h with
  | no h =>
    have hl := lot_no (d := d + 1) h
    simp [f_uncrossed, run_eq, ent_eq, S_uncrossed, hs, lfit_ok, turns_cons', turns_nil', hl]
  | ev a h =>
    have hl := lot_nat (d := d + 1) (a := a)
    have hb := band_full (a := a) (g := g)
    have h2 := sl_nat (d := d + 1) (x := a % 2 ^ g) hg
    generalize a % 2 ^ g = x at *
    have h3 : (decide (0 < x) && decide (x < 2 ^ g - 1)) = false := by
      rcases h with h | h
      · rw [h]; rfl
      · rw [h, decide_eq_false (Nat.lt_irrefl _), Bool.and_false]
    rw [h3] at h2
    simp [f_uncrossed, run_eq, ent_eq, S_uncrossed, hs, lfit_ok, turns_cons', turns_nil', hl, hb, h2]
theorem unc_bad2 {d g a : Nat} {t : T} (hg : g ≤ 1000) (ha : Good g a) (h : Bad g t) : f_uncrossed d [.int (g : Int), .int (a : Int), t] = .er ⟨6, ["lot"], [t]⟩ := by
  have hs := shl_one (j := (g : Int)) (by omega) (by omega)
  have hla := lot_nat (d := d + 1) (a := a)
  have hba := band_full (a := a) (g := g)
  have h2a := sl_nat (d := d + 1) (x := a % 2 ^ g) hg
  rw [decide_eq_true ha.1, decide_eq_true ha.2] at h2a
  generalize a % 2 ^ g = y at *
  cases h with
  | no h =>
    have hl := lot_no (d := d + 1) h
    simp [f_uncrossed, run_eq, ent_eq, S_uncrossed, hs, lfit_ok, turns_cons', turns_nil', hl, hla, h2a, hba]
  | ev b h =>
    have hl := lot_nat (d := d + 1) (a := b)
    have hb := band_full (a := b) (g := g)
    have h2 := sl_nat (d := d + 1) (x := b % 2 ^ g) hg
    generalize b % 2 ^ g = x at *
    have h3 : (decide (0 < x) && decide (x < 2 ^ g - 1)) = false := by
      rcases h with h | h
      · rw [h]; rfl
      · rw [h, decide_eq_false (Nat.lt_irrefl _), Bool.and_false]
    rw [h3] at h2
    simp [f_uncrossed, run_eq, ent_eq, S_uncrossed, hs, lfit_ok, turns_cons', turns_nil', hl, hla, h2a, hba, hb, h2]
/-- what uncrossed gives for two good lots -/
def uncN (g a b : Nat) : Res T :=
  if crN g (a % 2 ^ g) (b % 2 ^ g) = true then .er ⟨11, ["pair"], [.tup [.int (sideN g (a % 2 ^ g) : Nat), .int (sideN g (b % 2 ^ g) : Nat)]]⟩
  else if nDiff (a % 2 ^ g) (b % 2 ^ g) = 0 ∨ nDiff (b % 2 ^ g) (a % 2 ^ g) = 0 then .ok (.tup [.int (a &&& b : Nat), .int (a ||| b : Nat)])
  else .ok (.tup [.int (nDiff a b : Nat), .int (nDiff b a : Nat)])
theorem unc_good {d g a b : Nat} (hg : g ≤ 1000) (ha : Good g a) (hb : Good g b) : f_uncrossed d [.int (g : Int), .int (a : Int), .int (b : Int)] = uncN g a b := by
  have hs := shl_one (j := (g : Int)) (by omega) (by omega)
  have hla := lot_nat (d := d + 1) (a := a)
  have hba := band_full (a := a) (g := g)
  have h2a := sl_nat (d := d + 1) (x := a % 2 ^ g) hg
  rw [decide_eq_true ha.1, decide_eq_true ha.2] at h2a
  have hlb := lot_nat (d := d + 1) (a := b)
  have hbb := band_full (a := b) (g := g)
  have h2b := sl_nat (d := d + 1) (x := b % 2 ^ g) hg
  rw [decide_eq_true hb.1, decide_eq_true hb.2] at h2b
  obtain ⟨ha1, ha2⟩ := ha
  obtain ⟨hb1, hb2⟩ := hb
  unfold uncN
  generalize a % 2 ^ g = x at *
  generalize b % 2 ^ g = y at *
  have hc := cr_nat (d := d + 1) (x := x) (y := y) hg (by omega) (by omega)
  have s1 := side_nat (d := d + 1) hg ha1 ha2
  have s2 := side_nat (d := d + 1) hg hb1 hb2
  have z : ∀ n : Nat, ((n : Int) = 0) ↔ n = 0 := fun n => by omega
  cases c : crN g x y with
  | true =>
    rw [c] at hc
    simp [f_uncrossed, run_eq, ent_eq, S_uncrossed, hs, lfit_ok, turns_cons', turns_nil', hla, hlb, h2a, h2b, hba, hbb, hc, s1, s2]
  | false =>
    rw [c] at hc
    by_cases k1 : nDiff x y = 0
    · simp [f_uncrossed, run_eq, ent_eq, S_uncrossed, hs, lfit_ok, turns_cons', turns_nil', hla, hlb, h2a, h2b, hba, hbb, hc, bDiff, bAnd, bOr, z, k1]
    · by_cases k2 : nDiff y x = 0
      · simp [f_uncrossed, run_eq, ent_eq, S_uncrossed, hs, lfit_ok, turns_cons', turns_nil', hla, hlb, h2a, h2b, hba, hbb, hc, bDiff, bAnd, bOr, z, k1, k2]
      · simp [f_uncrossed, run_eq, ent_eq, S_uncrossed, hs, lfit_ok, turns_cons', turns_nil', hla, hlb, h2a, h2b, hba, hbb, hc, bDiff, bAnd, bOr, z, k1, k2]
/-! ### asked -/
theorem asked_lot {d : Nat} {g : Int} {t u w : T} (hw : noX w = true) (h : f_uncrossed (d + 1) [.int g, t, u] = .er ⟨6, ["lot"], [w]⟩) : f__law_asked d [.int g, t, u] = .ok (.lst none [.str "BadLot", w]) := by
  have e1 : tab_TownError 6 = some true := rfl
  have e2 : tab_BadAmount_BadDistricts_BadEdit_BadLengths_BadName_BadOrder_BadPrices_BadQuestion_BadStreet_BadTable_BadText 6 = some false := rfl
  have e3 : tab_BadTrial_BadWares_BadWay_CountsDiffer_DoubleName_DoubleSide_GatesDiffer_NetsDiffer_NoPlace_NoPlanner_NoStory 6 = some false := rfl
  have e4 : tab_NoStreet_NotCrossing_NothingToRedo_NothingToUndo_OddPlace_ThreeCross_TooFewLanes_TooFewSides_TooWide_Unbalanced_ZeroBottom 6 = some false := rfl
  have e5 : tab_BadLot 6 = some true := rfl
  have e6 : tab_TwoCross 6 = some false := rfl
  simp [f__law_asked, run_eq, ent_eq, S__law_asked, h, tryK_er, e1, e2, e3, e4, e5, e6, noX, noXs, hw, lfit_ok]
theorem asked_two {d : Nat} {g : Int} {t u w : T} (hw : noX w = true) (h : f_uncrossed (d + 1) [.int g, t, u] = .er ⟨11, ["pair"], [w]⟩) : f__law_asked d [.int g, t, u] = .ok (.lst none [.str "TwoCross", w]) := by
  have e1 : tab_TownError 11 = some true := rfl
  have e2 : tab_BadAmount_BadDistricts_BadEdit_BadLengths_BadName_BadOrder_BadPrices_BadQuestion_BadStreet_BadTable_BadText 11 = some false := rfl
  have e3 : tab_BadTrial_BadWares_BadWay_CountsDiffer_DoubleName_DoubleSide_GatesDiffer_NetsDiffer_NoPlace_NoPlanner_NoStory 11 = some false := rfl
  have e4 : tab_NoStreet_NotCrossing_NothingToRedo_NothingToUndo_OddPlace_ThreeCross_TooFewLanes_TooFewSides_TooWide_Unbalanced_ZeroBottom 11 = some false := rfl
  have e5 : tab_BadLot 11 = some false := rfl
  have e6 : tab_TwoCross 11 = some true := rfl
  simp [f__law_asked, run_eq, ent_eq, S__law_asked, h, tryK_er, e1, e2, e3, e4, e5, e6, noX, noXs, hw, lfit_ok]
theorem asked_ok {d : Nat} {g : Int} {t u w : T} (h : f_uncrossed (d + 1) [.int g, t, u] = .ok w) : f__law_asked d [.int g, t, u] = .ok (.lst none [.str "told", w]) := by
  simp [f__law_asked, run_eq, ent_eq, S__law_asked, h, lfit_ok]
end Lw

set_option Elab.async false
set_option linter.all false
set_option maxRecDepth 100000
set_option maxHeartbeats 4000000
namespace Lw
open PySem L2 Py
def setXK (i : Nat) (k p : P.Ex1) (env : Fv) : Option (Option Sl) → RS
  | some (some (.ol ts)) => (p env).thenX env fun t => (k env).thenX env fun j => (match j with
    | .int z => (match ixN ts.length z with
      | some m => if flat t = true then .nx (env.set i (some (.ol (ts.set m t)))) else .stuck
      | none => .stuck)
    | _ => .stuck)
  | _ => .stuck
theorem ev_setX {i : Nat} {k p : P.Ex1} {env : Fv} : S.setX i k p env = setXK i k p env env[i]? := by
  unfold S.setX setXK
  rfl
theorem setXK_ol {i : Nat} {k p : P.Ex1} {env : Fv} {ts : List T} {t : T} {m : Nat} (hp : p env = .ok t) (hk : k env = .ok (.int (m : Int))) (hm : m < ts.length) (hf : flat t = true) : setXK i k p env (some (some (.ol ts))) = .nx (env.set i (some (.ol (ts.set m t)))) := by
  unfold setXK
  simp only [hp, hk, Res.thenX_ok, ixN_nat hm, hf, if_true]
def aB (l : List Nat) (p : Nat → Bool) : T := .bl (l.any p)
def q00 (a b : Nat) : Nat → Bool := fun k => !a.testBit k && !b.testBit k
def q01 (a b : Nat) : Nat → Bool := fun k => !a.testBit k && b.testBit k
def q10 (a b : Nat) : Nat → Bool := fun k => a.testBit k && !b.testBit k
def q11 (a b : Nat) : Nat → Bool := fun k => a.testBit k && b.testBit k
def crossB (g a b : Nat) : Bool := (List.range g).any (q00 a b) && ((List.range g).any (q01 a b) && ((List.range g).any (q10 a b) && (List.range g).any (q11 a b)))
theorem eq4 {t : Option Tag} {b0 b1 b2 b3 : Bool} : T.eq (.lst t [.bl b0, .bl b1, .bl b2, .bl b3]) (.lst none [.bl true, .bl true, .bl true, .bl true]) = some (.bl (b0 && (b1 && (b2 && b3)))) := by
  cases b0 <;> cases b1 <;> cases b2 <;> cases b3 <;> rfl
theorem cross_ev {d g a b : Nat} (hg : g ≤ 1000) : f__law_cross d [.int (g : Int), .int (a : Int), .int (b : Int)] = .ok (.bl (crossB g a b)) := by
  have hr : rfit (g : Int) = true := rfit_ok (by omega) (by omega)
  have hf := turns_pre (tg := S.tName 4) (body := S.setX 3 (P.bin T.add (P.bin T.mul (P.c (.int 2)) (P.call (f__law_bit (d + 1)) (P.cons (P.var d 1) (P.cons (P.var d 4) P.nil)))) (P.call (f__law_bit (d + 1)) (P.cons (P.var d 2) (P.cons (P.var d 4) P.nil)))) (P.c (.bl true))) (g := fun (k : Nat) => T.int (0 + (k : Int)))
    (R := fun p e => ∃ o, e = [some (.fz (.int (g : Int))), some (.fz (.int (a : Int))), some (.fz (.int (b : Int))), some (.ol [aB p (q00 a b), aB p (q01 a b), aB p (q10 a b), aB p (q11 a b)]), o]) (List.range g) []
    [some (.fz (.int (g : Int))), some (.fz (.int (a : Int))), some (.fz (.int (b : Int))), some (.ol [.bl false, .bl false, .bl false, .bl false]), none] (by
      rintro p k post e hp ⟨o, rfl⟩
      obtain ⟨hk1, hk2⟩ := range_pre (show List.range g = p ++ k :: post from hp)
      have e1 := bit_ev (d + 1) a k (by omega)
      have e2 := bit_ev (d + 1) b k (by omega)
      have m1 : T.mul (.int 2) (.int ((a.testBit k).toNat : Nat)) = some (.int ((2 * (a.testBit k).toNat : Nat) : Int)) := by
        have : ((2 * (a.testBit k).toNat : Nat) : Int) = 2 * (((a.testBit k).toNat : Nat) : Int) := by simp
        rw [this]
        have : (((a.testBit k).toNat : Nat) : Int) ≤ 1 := by have := Bool.toNat_le (a.testBit k); omega
        exact mul_small (nat_lt_big (by omega) (by omega)) (nat_lt_big (by omega) (by omega))
      have hm : 2 * (a.testBit k).toNat + (b.testBit k).toNat < 4 := by
        have h1 := Bool.toNat_le (a.testBit k)
        have h2 := Bool.toNat_le (b.testBit k)
        omega
      refine ⟨_, _, rfl, .inl ?_, some (.fz (.int (0 + (k : Int)))), rfl⟩
      rw [ev_setX]
      have hidx : (P.bin T.add (P.bin T.mul (P.c (.int 2)) (P.call (f__law_bit (d + 1)) (P.cons (P.var d 1) (P.cons (P.var d 4) P.nil)))) (P.call (f__law_bit (d + 1)) (P.cons (P.var d 2) (P.cons (P.var d 4) P.nil)))) [some (.fz (.int (g : Int))), some (.fz (.int (a : Int))), some (.fz (.int (b : Int))), some (.ol [aB p (q00 a b), aB p (q01 a b), aB p (q10 a b), aB p (q11 a b)]), some (.fz (.int (0 + (k : Int))))] = .ok (.int ((2 * (a.testBit k).toNat + (b.testBit k).toNat : Nat) : Int)) := by
        have : ((2 * (a.testBit k).toNat + (b.testBit k).toNat : Nat) : Int) = ((2 * (a.testBit k).toNat : Nat) : Int) + (((b.testBit k).toNat : Nat) : Int) := by simp
        rw [this]
        generalize hz : ((2 * (a.testBit k).toNat : Nat) : Int) = z at m1
        simp [bit_eq, e1, e2, m1]
      refine Eq.trans (setXK_ol (i := 3) (p := P.c (.bl true)) (ts := [aB p (q00 a b), aB p (q01 a b), aB p (q10 a b), aB p (q11 a b)]) rfl hidx hm rfl) ?_
      unfold aB
      simp only [List.any_append, List.any_cons, List.any_nil, Bool.or_false, q00, q01, q10, q11]
      cases a.testBit k <;> cases b.testBit k <;> simp) ⟨none, rfl⟩
  obtain ⟨e, h1, o, rfl⟩ := hf
  have e0 : rng 0 g = (List.range g).map fun (k : Nat) => T.int (0 + (k : Int)) := rfl
  rw [← e0] at h1
  simp [f__law_cross, run_eq, ent_eq, S__law_cross, lfit_ok, hr, h1, aB, eq4, crossB]
theorem anyB {p : Nat → Bool} {g : Nat} : (!decide (sumB p g = 0)) = (List.range g).any p := by
  cases h : (List.range g).any p with
  | true =>
    obtain ⟨k, hk, hp⟩ := List.any_eq_true.mp h
    have : ¬ sumB p g = 0 := fun z => by rw [sumB_zero.mp z k (List.mem_range.mp hk)] at hp; cases hp
    simp [this]
  | false =>
    have : sumB p g = 0 := sumB_zero.mpr fun k hk => by
      have := List.any_eq_false.mp h k (List.mem_range.mpr hk)
      simpa using this
    simp [this]
theorem tb_mod {a g k : Nat} (h : k < g) : (a % 2 ^ g).testBit k = a.testBit k := by
  rw [Nat.testBit_mod_two_pow, decide_eq_true h, Bool.true_and]
theorem cr_cross {g a b : Nat} : crN g (a % 2 ^ g) (b % 2 ^ g) = crossB g a b := by
  have hp := Nat.two_pow_pos g
  have hx : a % 2 ^ g < 2 ^ g := Nat.mod_lt _ hp
  have hy : b % 2 ^ g < 2 ^ g := Nat.mod_lt _ hp
  have c1 : (!decide (a % 2 ^ g &&& b % 2 ^ g = 0)) = (List.range g).any (q11 a b) := by
    rw [and_sum hx, ← anyB]
    rw [sumB_congr (q := q11 a b) fun k hk => by rw [tb_mod hk, tb_mod hk]; rfl]
  have c2 : (!decide (nDiff (a % 2 ^ g) (b % 2 ^ g) = 0)) = (List.range g).any (q10 a b) := by
    rw [diff_sum hx, ← anyB]
    rw [sumB_congr (q := q10 a b) fun k hk => by rw [tb_mod hk, tb_mod hk]; rfl]
  have c3 : (!decide (nDiff (b % 2 ^ g) (a % 2 ^ g) = 0)) = (List.range g).any (q01 a b) := by
    rw [diff_sum hy, ← anyB]
    rw [sumB_congr (q := q01 a b) fun k hk => by rw [tb_mod hk, tb_mod hk, Bool.and_comm]; rfl]
  have c4 : (!decide (2 ^ g - 1 - (a % 2 ^ g ||| b % 2 ^ g) = 0)) = (List.range g).any (q00 a b) := by
    have h1 := or_sum hx hy
    rw [sumB_congr (q := fun k => a.testBit k || b.testBit k) fun k hk => by rw [tb_mod hk, tb_mod hk]] at h1
    have h2 := sumB_split (fun _ => true) (fun k => a.testBit k || b.testBit k) g
    rw [sumB_all] at h2
    simp only [Bool.true_and] at h2
    have h3 : 2 ^ g - 1 - (a % 2 ^ g ||| b % 2 ^ g) = sumB (q00 a b) g := by
      rw [h1, h2]
      rw [sumB_congr (p := fun k => !(a.testBit k || b.testBit k)) (q := q00 a b) fun k _ => by simp [q00]]
      omega
    rw [h3, anyB]
  unfold crN crossB
  rw [c1, c2, c3, c4]
  cases (List.range g).any (q00 a b) <;> cases (List.range g).any (q01 a b) <;> cases (List.range g).any (q10 a b) <;> cases (List.range g).any (q11 a b) <;> rfl
end Lw

set_option Elab.async false
set_option linter.all false
set_option maxRecDepth 100000
set_option maxHeartbeats 4000000
namespace Lw
open PySem L2 Py
/-- a filter by a comprehension -/
theorem filtC {d i : Nat} {b : P.Bx} {env : Fv} {c : Nat → Bool} (l : List Nat) (hi : i < env.length) (h : ∀ x, x ∈ l → b (env.set i (some (.fz (nT x)))) = .ok (c x)) : P.turnsC (S.tName i) b (P.var d i) env (l.map nT) = .ok ((l.filter c).map nT) := by
  refine turnsC_map (g := nT) (f := nT) l fun x hx => ⟨env.set i (some (.fz (nT x))), ?_, h x hx, fun _ => ?_⟩
  · rw [ev_tName, if_pos hi]
  · show Res.of (slT d i (env.set i (some (.fz (nT x))))[i]?) = _
    rw [List.getElem?_set_self hi]
    rfl
/-- 1 << x for each -/
theorem powC {d i : Nat} {env : Fv} (l : List Nat) (hi : i < env.length) (h : ∀ x ∈ l, x ≤ 1000) : P.turnsC (S.tName i) P.yes (P.bin T.shl (P.c (.int 1)) (P.var d i)) env (l.map nT) = .ok ((l.map fun k => 2 ^ k).map nT) := by
  have := turnsC_map (tg := S.tName i) (b := P.yes) (p := P.bin T.shl (P.c (.int 1)) (P.var d i)) (env := env) (g := nT) (c := fun _ => true) (f := fun k => nT (2 ^ k)) l fun x hx => ⟨env.set i (some (.fz (nT x))), by rw [ev_tName, if_pos hi], rfl, fun _ => by
    have hs := shl_one (j := (x : Int)) (by omega) (by have := h x hx; omega)
    have e : slT d i (env.set i (some (.fz (nT x))))[i]? = some (nT x) := by rw [List.getElem?_set_self hi]; rfl
    simp [e, hs]⟩
  rw [this, List.filter_eq_self.mpr (fun _ _ => rfl), List.map_map]
  rfl
theorem sumB_cut {p : Nat → Bool} {g : Nat} : ∀ {n : Nat}, g ≤ n → sumB (fun k => p k && decide (k < g)) n = sumB p g
  | 0, h => by
    have : g = 0 := by omega
    subst this
    rfl
  | n + 1, h => by
    rw [sumB_succ]
    by_cases c : g = n + 1
    · subst c
      rw [sumB_succ]
      rw [sumB_congr (q := p) fun k hk => by rw [decide_eq_true (by omega : k < n + 1), Bool.and_true]]
      rw [decide_eq_true (by omega : n < n + 1), Bool.and_true]
    · have hg : g ≤ n := by omega
      rw [sumB_cut hg, decide_eq_false (by omega : ¬ n < g), Bool.and_false, if_neg Bool.false_ne_true, Nat.add_zero]
/-- the gates of a lot -/
def gts (g a : Nat) : List Nat := (mem 66 a).filter fun k => decide (k < g)
theorem gts_sum {g a : Nat} (hg : g ≤ 66) : ((gts g a).map fun k => 2 ^ k).sum = a % 2 ^ g := by
  unfold gts mem
  rw [List.filter_filter]
  have := pow_sum (fun k => decide (k < g) && a.testBit k) 66
  rw [this, sumB_congr (q := fun k => a.testBit k && decide (k < g)) fun k _ => Bool.and_comm .., sumB_cut hg, sumB_bits]
theorem mem_iff {n a k : Nat} : k ∈ mem n a ↔ k < n ∧ a.testBit k = true := by
  unfold mem
  rw [List.mem_filter, List.mem_range]
theorem gts_iff {g a k : Nat} (hg : g ≤ 66) : k ∈ gts g a ↔ k < g ∧ a.testBit k = true := by
  unfold gts
  rw [List.mem_filter, mem_iff]
  exact ⟨fun ⟨⟨h1, h2⟩, h3⟩ => ⟨of_decide_eq_true h3, h2⟩, fun ⟨h1, h2⟩ => ⟨⟨by omega, h2⟩, decide_eq_true h1⟩⟩
theorem mem_le {n a k : Nat} (h : k ∈ mem n a) (hn : n ≤ 1000) : k ≤ 1000 := by have := (mem_iff.mp h).1; omega
theorem gts_le {g a k : Nat} (h : k ∈ gts g a) : k ≤ 1000 := mem_le (List.mem_filter.mp h).1 (by omega)
theorem mem_len {n a : Nat} : (mem n a).length ≤ n := by
  have := List.length_filter_le a.testBit (List.range n)
  rw [List.length_range] at this
  exact this
theorem filt_len {l : List Nat} {p : Nat → Bool} {n : Nat} (h : l.length ≤ n) : (l.filter p).length ≤ n := Nat.le_trans (List.length_filter_le ..) h
theorem gts_len {g a : Nat} : (gts g a).length ≤ 66 := filt_len mem_len
/-- no gate of a that is none of b -/
theorem nest_iff {g a b : Nat} (hg : g ≤ 66) : ((gts g a).filter (fun k => !(gts g b).contains k) == []) = decide (nDiff (a % 2 ^ g) (b % 2 ^ g) = 0) := by
  have h1 : nDiff (a % 2 ^ g) (b % 2 ^ g) = 0 ↔ ∀ k, k < g → q10 a b k = false := by
    rw [diff_sum (Nat.mod_lt _ (Nat.two_pow_pos g)), sumB_congr (q := q10 a b) fun k hk => by rw [tb_mod hk, tb_mod hk]; rfl, sumB_zero]
  have h2 : (gts g a).filter (fun k => !(gts g b).contains k) = [] ↔ ∀ k, k < g → q10 a b k = false := by
    rw [List.filter_eq_nil_iff]
    constructor
    · intro h k hk
      unfold q10
      cases ca : a.testBit k with
      | false => rfl
      | true =>
        have := h k ((gts_iff hg).mpr ⟨hk, ca⟩)
        have hb : k ∈ gts g b := by simpa using this
        rw [((gts_iff hg).mp hb).2]
        rfl
    · intro h k hk
      obtain ⟨k1, k2⟩ := (gts_iff hg).mp hk
      have := h k k1
      unfold q10 at this
      rw [k2] at this
      have hb : b.testBit k = true := by simpa using this
      have : k ∈ gts g b := (gts_iff hg).mpr ⟨k1, hb⟩
      simpa using this
  by_cases c : nDiff (a % 2 ^ g) (b % 2 ^ g) = 0
  · rw [decide_eq_true c, h2.mpr (h1.mp c)]
    rfl
  · rw [decide_eq_false c]
    exact beq_eq_false_iff_ne.mpr fun z => c (h1.mpr (h2.mp z))
theorem has_mem {n a k : Nat} (h : k < n) : (mem n a).contains k = a.testBit k := by
  cases c : a.testBit k with
  | true => simpa using mem_iff.mpr ⟨h, c⟩
  | false =>
    have : ¬ k ∈ mem n a := fun z => by rw [(mem_iff.mp z).2] at c; cases c
    simpa using this
theorem common_sum {a b : Nat} (ha : a < 2 ^ 66) : ((((mem 66 a).filter fun k => (mem 66 b).contains k)).map fun k => 2 ^ k).sum = a &&& b := by
  have e : (mem 66 a).filter (fun k => (mem 66 b).contains k) = (List.range 66).filter fun k => a.testBit k && b.testBit k := by
    unfold mem
    rw [List.filter_filter]
    refine List.filter_congr fun k hk => ?_
    rw [Bool.and_comm, show (List.filter b.testBit (List.range 66)).contains k = b.testBit k from has_mem (List.mem_range.mp hk)]
  rw [e, pow_sum, and_sum ha]
theorem joint_sum {a b : Nat} (ha : a < 2 ^ 66) (hb : b < 2 ^ 66) : ((((List.range 66).filter fun k => (mem 66 a).contains k || (mem 66 b).contains k)).map fun k => 2 ^ k).sum = a ||| b := by
  have e : (List.range 66).filter (fun k => (mem 66 a).contains k || (mem 66 b).contains k) = (List.range 66).filter fun k => a.testBit k || b.testBit k := by
    refine List.filter_congr fun k hk => ?_
    rw [has_mem (List.mem_range.mp hk), has_mem (List.mem_range.mp hk)]
  rw [e, pow_sum, or_sum ha hb]
theorem alone_sum {a b : Nat} (ha : a < 2 ^ 66) : ((((mem 66 a).filter fun k => !(mem 66 b).contains k)).map fun k => 2 ^ k).sum = nDiff a b := by
  have e : (mem 66 a).filter (fun k => !(mem 66 b).contains k) = (List.range 66).filter fun k => a.testBit k && !b.testBit k := by
    unfold mem
    rw [List.filter_filter]
    refine List.filter_congr fun k hk => ?_
    rw [Bool.and_comm, show (List.filter b.testBit (List.range 66)).contains k = b.testBit k from has_mem (List.mem_range.mp hk)]
  rw [e, pow_sum, diff_sum ha]
theorem due_bad1 {d g : Nat} {t u : T} (hg : g ≤ 1000) (h : Bad g t) : f__law_due d [.int (g : Int), t, u] = .ok (.lst none [.str "BadLot", t]) := by
  have h1 := imp_bad (d := d + 1) hg h
  simp [f__law_due, run_eq, ent_eq, S__law_due, h1, lfit_ok]
theorem due_bad2 {d g a : Nat} {t : T} (hg : g ≤ 1000) (ha : Good g a) (h : Bad g t) : f__law_due d [.int (g : Int), .int (a : Int), t] = .ok (.lst none [.str "BadLot", t]) := by
  have h0 := imp_good (d := d + 1) hg ha
  have h1 := imp_bad (d := d + 1) hg h
  simp [f__law_due, run_eq, ent_eq, S__law_due, h0, h1, lfit_ok]
def dueN (g a b : Nat) : T :=
  if crossB g a b = true then .lst none [.str "TwoCross", .tup [.int (sideN g (a % 2 ^ g) : Nat), .int (sideN g (b % 2 ^ g) : Nat)]]
  else if nDiff (a % 2 ^ g) (b % 2 ^ g) = 0 ∨ nDiff (b % 2 ^ g) (a % 2 ^ g) = 0 then .lst none [.str "told", .tup [.int (a &&& b : Nat), .int (a ||| b : Nat)]]
  else .lst none [.str "told", .tup [.int (nDiff a b : Nat), .int (nDiff b a : Nat)]]
theorem rng_nat (n : Nat) : rng 0 n = (List.range n).map nT := by
  unfold rng
  refine List.map_congr_left fun k _ => ?_
  rw [Int.zero_add]
/-- a filter by membership -/
theorem inC {d i j : Nat} {env : Fv} {m : List Nat} (neg : Bool) (l : List Nat) (hi : i < env.length) (hij : i ≠ j) (hj : env[j]? = some (some (.fz (.lst none (m.map nT))))) : P.turnsC (S.tName i) (P.tb (P.bin (T.isIn neg) (P.var d i) (P.var d j))) (P.var d i) env (l.map nT) = .ok ((l.filter fun k => m.contains k != neg).map nT) := filtC l hi fun x _ => by
  have k1 : (env.set i (some (.fz (nT x))))[i]? = some (some (.fz (nT x))) := List.getElem?_set_self hi
  have k2 : (env.set i (some (.fz (nT x))))[j]? = some (some (.fz (.lst none (m.map nT)))) := by rw [List.getElem?_set_ne hij]; exact hj
  have k3 : T.isIn neg (nT x) (.lst none (m.map nT)) = some (.bl (m.contains x != neg)) := by
    cases neg with
    | false => rw [(inV_nat x m).1]; simp
    | true => rw [(inV_nat x m).2]; simp
  show (((Res.of (slT d i (env.set i (some (.fz (nT x))))[i]?)).bind fun x => (Res.of (slT d j (env.set i (some (.fz (nT _))))[j]?)).bind fun y => .of (T.isIn neg x y)).bind fun x => .of x.boo) = _
  rw [k1, k2]
  show ((Res.of (T.isIn neg (nT x) (.lst none (m.map nT)))).bind fun x => .of x.boo) = _
  rw [k3]
  rfl
theorem inCt {d i j : Nat} {env : Fv} {m : List Nat} (l : List Nat) (hi : i < env.length) (hij : i ≠ j) (hj : env[j]? = some (some (.fz (.lst none (m.map nT))))) : P.turnsC (S.tName i) (P.tb (P.bin (T.isIn true) (P.var d i) (P.var d j))) (P.var d i) env (l.map nT) = .ok ((l.filter fun k => !m.contains k).map nT) := by
  rw [inC true l hi hij hj]
  congr 3
  funext k
  simp
theorem inCf {d i j : Nat} {env : Fv} {m : List Nat} (l : List Nat) (hi : i < env.length) (hij : i ≠ j) (hj : env[j]? = some (some (.fz (.lst none (m.map nT))))) : P.turnsC (S.tName i) (P.tb (P.bin (T.isIn false) (P.var d i) (P.var d j))) (P.var d i) env (l.map nT) = .ok ((l.filter fun k => m.contains k).map nT) := by
  rw [inC false l hi hij hj]
  congr 3
  funext k
  simp
theorem due_good {d g a b : Nat} (hg : g ≤ 66) (ha : Good g a) (hb : Good g b) (a6 : a < 2 ^ 66) (b6 : b < 2 ^ 66) : f__law_due d [.int (g : Int), .int (a : Int), .int (b : Int)] = .ok (dueN g a b) := by
  have h0 := imp_good (d := d + 1) (by omega) ha
  have h1 := imp_good (d := d + 1) (by omega) hb
  have hm1 : LL.f_members (d + 1) [.int (a : Int), .int 66] = .ok (.lst none ((mem 66 a).map nT)) := members_ev (d + 1) a 66 (by omega)
  have hm2 : LL.f_members (d + 1) [.int (b : Int), .int 66] = .ok (.lst none ((mem 66 b).map nT)) := members_ev (d + 1) b 66 (by omega)
  have hx := cross_ev (d := d + 1) (g := g) (a := a) (b := b) (by omega)
  have hl : ∀ l : List Nat, l.length ≤ 66 → lfit l.length = true := fun l h => lfit_ok (by omega)
  have lm1 := hl _ (mem_len (n := 66) (a := a))
  have lm2 := hl _ (mem_len (n := 66) (a := b))
  have lg1 := hl _ (gts_len (g := g) (a := a))
  have lg2 := hl _ (gts_len (g := g) (a := b))
  have f1 : ∀ e : Fv, e.length = 13 → e[0]? = some (some (.fz (.int (g : Int)))) → ∀ c : Nat, P.turnsC (S.tName 11) (P.tb (P.bin T.lt (P.var d 11) (P.var d 0))) (P.var d 11) e ((mem 66 c).map nT) = .ok ((gts g c).map nT) := fun e he e0 c => filtC (d := d) (mem 66 c) (by omega) fun x hx => by
    have k1 : (e.set 11 (some (.fz (nT x))))[11]? = some (some (.fz (nT x))) := List.getElem?_set_self (by omega)
    have k2 : (e.set 11 (some (.fz (nT x))))[0]? = some (some (.fz (.int (g : Int)))) := by rw [List.getElem?_set_ne (by omega)]; exact e0
    simp [k1, k2]
  have p1 : ∀ e : Fv, e.length = 13 → ∀ l : List Nat, (∀ x ∈ l, x ≤ 1000) → P.turnsC (S.tName 11) P.yes (P.bin T.shl (P.c (.int 1)) (P.var d 11)) e (l.map nT) = .ok ((l.map fun k => 2 ^ k).map nT) := fun e he l h => powC l (by omega) h
  have p2 : ∀ e : Fv, e.length = 13 → ∀ l : List Nat, (∀ x ∈ l, x ≤ 1000) → P.turnsC (S.tName 12) P.yes (P.bin T.shl (P.c (.int 1)) (P.var d 12)) e (l.map nT) = .ok ((l.map fun k => 2 ^ k).map nT) := fun e he l h => powC l (by omega) h
  have hA : [some (.fz (.int (g : Int))), some (.fz (.int (a : Int))), some (.fz (.int (b : Int))), some (.fz (.lst none ((mem 66 a).map nT))), some (.fz (.lst none ((mem 66 b).map nT))), some (.fz (.lst none ((gts g a).map nT))), some (.fz (.lst none ((gts g b).map nT))), none, none, none, none, none, none] = ([some (.fz (.int (g : Int))), some (.fz (.int (a : Int))), some (.fz (.int (b : Int))), some (.fz (.lst none ((mem 66 a).map nT))), some (.fz (.lst none ((mem 66 b).map nT))), some (.fz (.lst none ((gts g a).map nT))), some (.fz (.lst none ((gts g b).map nT))), none, none, none, none, none, none] : Fv) := rfl
  have s1 := gts_sum (g := g) (a := a) hg
  have s2 := gts_sum (g := g) (a := b) hg
  have hp := Nat.two_pow_pos g
  have ls1 := lside_ev (d + 1) g (a % 2 ^ g) (by omega) (Nat.mod_lt _ hp)
  have ls2 := lside_ev (d + 1) g (b % 2 ^ g) (by omega) (Nat.mod_lt _ hp)
  have pa := p1 [some (.fz (.int (g : Int))), some (.fz (.int (a : Int))), some (.fz (.int (b : Int))), some (.fz (.lst none ((mem 66 a).map nT))), some (.fz (.lst none ((mem 66 b).map nT))), some (.fz (.lst none ((gts g a).map nT))), some (.fz (.lst none ((gts g b).map nT))), none, none, none, none, none, none] rfl (gts g a) (fun x h => gts_le h)
  have pb := p1 [some (.fz (.int (g : Int))), some (.fz (.int (a : Int))), some (.fz (.int (b : Int))), some (.fz (.lst none ((mem 66 a).map nT))), some (.fz (.lst none ((mem 66 b).map nT))), some (.fz (.lst none ((gts g a).map nT))), some (.fz (.lst none ((gts g b).map nT))), none, none, none, none, none, none] rfl (gts g b) (fun x h => gts_le h)
  have sn1 := sum_nat ((gts g a).map fun k => 2 ^ k) none
  have sn2 := sum_nat ((gts g b).map fun k => 2 ^ k) none
  rw [s1] at sn1
  rw [s2] at sn2
  unfold dueN
  generalize hxa : a % 2 ^ g = xa at *
  generalize hxb : b % 2 ^ g = xb at *
  cases c : crossB g a b with
  | true =>
    rw [c] at hx
    simp [-List.map_map, f__law_due, run_eq, ent_eq, S__law_due, h0, h1, members_eq, hm1, hm2, lm1, lm2, lg1, lg2, f1, hx, pa, pb, sn1, sn2, lside_eq, ls1, ls2, lfit_ok]
  | false =>
    rw [c] at hx
    have n1 := inCt (d := d) (i := 11) (j := 6) (env := [some (.fz (.int (g : Int))), some (.fz (.int (a : Int))), some (.fz (.int (b : Int))), some (.fz (.lst none ((mem 66 a).map nT))), some (.fz (.lst none ((mem 66 b).map nT))), some (.fz (.lst none ((gts g a).map nT))), some (.fz (.lst none ((gts g b).map nT))), none, none, none, none, none, none]) (m := gts g b) (gts g a) (by simp) (by decide) rfl
    have n2 := inCt (d := d) (i := 11) (j := 5) (env := [some (.fz (.int (g : Int))), some (.fz (.int (a : Int))), some (.fz (.int (b : Int))), some (.fz (.lst none ((mem 66 a).map nT))), some (.fz (.lst none ((mem 66 b).map nT))), some (.fz (.lst none ((gts g a).map nT))), some (.fz (.lst none ((gts g b).map nT))), none, none, none, none, none, none]) (m := gts g a) (gts g b) (by simp) (by decide) rfl
    have ln1 := hl _ (filt_len (p := fun k => !(gts g b).contains k) (gts_len (g := g) (a := a)))
    have ln2 := hl _ (filt_len (p := fun k => !(gts g a).contains k) (gts_len (g := g) (a := b)))
    have q1 := nest_iff (g := g) (a := a) (b := b) hg
    have q2 := nest_iff (g := g) (a := b) (b := a) hg
    rw [hxa, hxb] at q1 q2
    have lc := hl _ (filt_len (p := fun k => (mem 66 b).contains k) (mem_len (n := 66) (a := a)))
    have lj : ((List.range 66).filter fun k => (mem 66 a).contains k || (mem 66 b).contains k).length ≤ 66 := filt_len (by simp)
    have lj' := hl _ lj
    have la := hl _ (filt_len (p := fun k => !(mem 66 b).contains k) (mem_len (n := 66) (a := a)))
    have lo := hl _ (filt_len (p := fun k => !(mem 66 a).contains k) (mem_len (n := 66) (a := b)))
    have t1 := inCf (d := d) (i := 12) (j := 4) (env := [some (.fz (.int (g : Int))), some (.fz (.int (a : Int))), some (.fz (.int (b : Int))), some (.fz (.lst none ((mem 66 a).map nT))), some (.fz (.lst none ((mem 66 b).map nT))), some (.fz (.lst none ((gts g a).map nT))), some (.fz (.lst none ((gts g b).map nT))), none, none, none, none, none, none]) (m := mem 66 b) (mem 66 a) (by simp) (by decide) rfl
    have t2 := filtC (d := d) (i := 12) (b := P.or (P.tb (P.bin (T.isIn false) (P.var d 12) (P.var d 3))) (P.tb (P.bin (T.isIn false) (P.var d 12) (P.var d 4)))) (env := [some (.fz (.int (g : Int))), some (.fz (.int (a : Int))), some (.fz (.int (b : Int))), some (.fz (.lst none ((mem 66 a).map nT))), some (.fz (.lst none ((mem 66 b).map nT))), some (.fz (.lst none ((gts g a).map nT))), some (.fz (.lst none ((gts g b).map nT))), some (.fz (.lst none (((mem 66 a).filter fun k => (mem 66 b).contains k).map nT))), none, none, none, none, none]) (c := fun k => (mem 66 a).contains k || (mem 66 b).contains k) (List.range 66) (by simp) (fun x _ => by
      have k1 := (inV_nat x (mem 66 a)).1
      have k2 := (inV_nat x (mem 66 b)).1
      cases h1 : (mem 66 a).contains x <;> rw [h1] at k1 <;> simp [k1, k2])
    have t3 := p2 [some (.fz (.int (g : Int))), some (.fz (.int (a : Int))), some (.fz (.int (b : Int))), some (.fz (.lst none ((mem 66 a).map nT))), some (.fz (.lst none ((mem 66 b).map nT))), some (.fz (.lst none ((gts g a).map nT))), some (.fz (.lst none ((gts g b).map nT))), some (.fz (.lst none (((mem 66 a).filter fun k => (mem 66 b).contains k).map nT))), some (.fz (.lst none (((List.range 66).filter fun k => (mem 66 a).contains k || (mem 66 b).contains k).map nT))), none, none, none, none] rfl ((mem 66 a).filter fun k => (mem 66 b).contains k) (fun x h => mem_le (List.mem_filter.mp h).1 (by omega))
    have t4 := p2 [some (.fz (.int (g : Int))), some (.fz (.int (a : Int))), some (.fz (.int (b : Int))), some (.fz (.lst none ((mem 66 a).map nT))), some (.fz (.lst none ((mem 66 b).map nT))), some (.fz (.lst none ((gts g a).map nT))), some (.fz (.lst none ((gts g b).map nT))), some (.fz (.lst none (((mem 66 a).filter fun k => (mem 66 b).contains k).map nT))), some (.fz (.lst none (((List.range 66).filter fun k => (mem 66 a).contains k || (mem 66 b).contains k).map nT))), none, none, none, none] rfl ((List.range 66).filter fun k => (mem 66 a).contains k || (mem 66 b).contains k) (fun x h => by have := List.mem_range.mp (List.mem_filter.mp h).1; omega)
    have t5 := inCt (d := d) (i := 12) (j := 4) (env := [some (.fz (.int (g : Int))), some (.fz (.int (a : Int))), some (.fz (.int (b : Int))), some (.fz (.lst none ((mem 66 a).map nT))), some (.fz (.lst none ((mem 66 b).map nT))), some (.fz (.lst none ((gts g a).map nT))), some (.fz (.lst none ((gts g b).map nT))), none, none, none, none, none, none]) (m := mem 66 b) (mem 66 a) (by simp) (by decide) rfl
    have t6 := inCt (d := d) (i := 12) (j := 3) (env := [some (.fz (.int (g : Int))), some (.fz (.int (a : Int))), some (.fz (.int (b : Int))), some (.fz (.lst none ((mem 66 a).map nT))), some (.fz (.lst none ((mem 66 b).map nT))), some (.fz (.lst none ((gts g a).map nT))), some (.fz (.lst none ((gts g b).map nT))), none, none, some (.fz (.lst none (((mem 66 a).filter fun k => !(mem 66 b).contains k).map nT))), none, none, none]) (m := mem 66 a) (mem 66 b) (by simp) (by decide) rfl
    have t7 := p2 [some (.fz (.int (g : Int))), some (.fz (.int (a : Int))), some (.fz (.int (b : Int))), some (.fz (.lst none ((mem 66 a).map nT))), some (.fz (.lst none ((mem 66 b).map nT))), some (.fz (.lst none ((gts g a).map nT))), some (.fz (.lst none ((gts g b).map nT))), none, none, some (.fz (.lst none (((mem 66 a).filter fun k => !(mem 66 b).contains k).map nT))), some (.fz (.lst none (((mem 66 b).filter fun k => !(mem 66 a).contains k).map nT))), none, none] rfl ((mem 66 a).filter fun k => !(mem 66 b).contains k) (fun x h => mem_le (List.mem_filter.mp h).1 (by omega))
    have t8 := p2 [some (.fz (.int (g : Int))), some (.fz (.int (a : Int))), some (.fz (.int (b : Int))), some (.fz (.lst none ((mem 66 a).map nT))), some (.fz (.lst none ((mem 66 b).map nT))), some (.fz (.lst none ((gts g a).map nT))), some (.fz (.lst none ((gts g b).map nT))), none, none, some (.fz (.lst none (((mem 66 a).filter fun k => !(mem 66 b).contains k).map nT))), some (.fz (.lst none (((mem 66 b).filter fun k => !(mem 66 a).contains k).map nT))), none, none] rfl ((mem 66 b).filter fun k => !(mem 66 a).contains k) (fun x h => mem_le (List.mem_filter.mp h).1 (by omega))
    have u1 := sum_nat (((mem 66 a).filter fun k => (mem 66 b).contains k).map fun k => 2 ^ k) none
    have u2 := sum_nat (((List.range 66).filter fun k => (mem 66 a).contains k || (mem 66 b).contains k).map fun k => 2 ^ k) none
    have u3 := sum_nat (((mem 66 a).filter fun k => !(mem 66 b).contains k).map fun k => 2 ^ k) none
    have u4 := sum_nat (((mem 66 b).filter fun k => !(mem 66 a).contains k).map fun k => 2 ^ k) none
    rw [common_sum a6] at u1
    rw [joint_sum a6 b6] at u2
    rw [alone_sum a6] at u3
    rw [alone_sum b6] at u4
    have hr66 : rfit 66 = true := rfit_ok (by omega) (by omega)
    have l66 : lfit (List.range 66).length = true := lfit_ok (by simp)
    have e66 : rng 0 66 = (List.range 66).map nT := rng_nat 66
    generalize ((mem 66 a).filter fun k => (mem 66 b).contains k) = com at *
    generalize ((List.range 66).filter fun k => (mem 66 a).contains k || (mem 66 b).contains k) = joi at *
    generalize ((mem 66 a).filter fun k => !(mem 66 b).contains k) = al at *
    generalize ((mem 66 b).filter fun k => !(mem 66 a).contains k) = ot at *
    generalize ((gts g a).filter fun k => !(gts g b).contains k) = na at *
    generalize ((gts g b).filter fun k => !(gts g a).contains k) = nb at *
    by_cases k1 : nDiff xa xb = 0
    · rw [decide_eq_true k1] at q1
      simp [-List.map_map, f__law_due, run_eq, ent_eq, S__law_due, h0, h1, members_eq, hm1, hm2, lm1, lm2, lg1, lg2, f1, hx, n1, ln1, eq_nats0, q1, t1, t2, t3, t4, lc, lj', u1, u2, lfit_ok, hr66, e66, k1]
    · rw [decide_eq_false k1] at q1
      by_cases k2 : nDiff xb xa = 0
      · rw [decide_eq_true k2] at q2
        simp [-List.map_map, f__law_due, run_eq, ent_eq, S__law_due, h0, h1, members_eq, hm1, hm2, lm1, lm2, lg1, lg2, f1, hx, n1, n2, ln1, ln2, eq_nats0, q1, q2, t1, t2, t3, t4, lc, lj', u1, u2, lfit_ok, hr66, e66, k1, k2]
      · rw [decide_eq_false k2] at q2
        simp [-List.map_map, f__law_due, run_eq, ent_eq, S__law_due, h0, h1, members_eq, hm1, hm2, lm1, lm2, lg1, lg2, f1, hx, n1, n2, ln1, ln2, eq_nats0, q1, q2, t5, t6, t7, t8, la, lo, u3, u4, lfit_ok, k1, k2]
end Lw

set_option Elab.async false
set_option linter.all false
set_option maxRecDepth 100000
set_option maxHeartbeats 4000000
namespace Lw
open PySem L2 Py
theorem ne_told : T.ne (.str "told") (.str "told") = some (.bl false) := by kernel_rfl
theorem ne_lot : T.ne (.str "BadLot") (.str "BadLot") = some (.bl false) := by kernel_rfl
theorem ne_two : T.ne (.str "TwoCross") (.str "TwoCross") = some (.bl false) := by kernel_rfl
theorem eq_lot : T.eq (.str "BadLot") (.str "BadLot") = some (.bl true) := by kernel_rfl
theorem eq_told : T.eq (.str "told") (.str "BadLot") = some (.bl false) := by kernel_rfl
theorem eq_two : T.eq (.str "TwoCross") (.str "BadLot") = some (.bl false) := by kernel_rfl
theorem eq_pair {i j : Int} : T.eq (.tup [.int i, .int j]) (.tup [.int i, .int j]) = some (.bl true) := by
  have e : T.eq (.tup [.int i, .int j]) (.tup [.int i, .int j]) = some (.bl ((i == i) && ((j == j) && true))) := rfl
  rw [e, beq_self_eq_true, beq_self_eq_true]
  rfl
theorem at0 {x y : T} : atI [x, y] 0 = some x := rfl
theorem at1 {x y : T} : atI [x, y] 1 = some y := rfl
/-- a value as it is told back -/
structure Back (t : T) : Prop where
  eq : T.eq t t = some (.bl true)
  is : ∃ b, T.isi "bool" t = some (.bl b)
  nx : noX t = true
theorem right_bad {d : Nat} {x y z t : T} (hb : Back t) (h1 : f__law_due (d + 1) [x, y, z] = .ok (.lst none [.str "BadLot", t])) (h2 : f__law_asked (d + 1) [x, y, z] = .ok (.lst none [.str "BadLot", t])) : f__law_right d [x, y, z] = .ok (.bl true) := by
  obtain ⟨e1, ⟨b, e2⟩, _⟩ := hb
  simp [f__law_right, run_eq, ent_eq, S__law_right, h1, h2, at0, at1, ne_lot, eq_lot, e1, e2]
theorem right_told {d : Nat} {x y z : T} {i j : Int} (h1 : f__law_due (d + 1) [x, y, z] = .ok (.lst none [.str "told", .tup [.int i, .int j]])) (h2 : f__law_asked (d + 1) [x, y, z] = .ok (.lst none [.str "told", .tup [.int i, .int j]])) : f__law_right d [x, y, z] = .ok (.bl true) := by
  simp [f__law_right, run_eq, ent_eq, S__law_right, h1, h2, at0, at1, ne_told, eq_told, eq_pair, isi_tab, whole_eq, whole_int]
theorem right_two {d : Nat} {x y z : T} {i j : Int} (h1 : f__law_due (d + 1) [x, y, z] = .ok (.lst none [.str "TwoCross", .tup [.int i, .int j]])) (h2 : f__law_asked (d + 1) [x, y, z] = .ok (.lst none [.str "TwoCross", .tup [.int i, .int j]])) : f__law_right d [x, y, z] = .ok (.bl true) := by
  simp [f__law_right, run_eq, ent_eq, S__law_right, h1, h2, at0, at1, ne_two, eq_two, eq_pair, isi_tab, whole_eq, whole_int]
/-- what is asked: a lot below 2 ^ 66, or a value that is told back -/
inductive Arg (g : Nat) : T → Prop where
  | good (a : Nat) (h : Good g a) (h6 : a < 2 ^ 66) : Arg g (.int (a : Int))
  | bad {t : T} (h : Bad g t) (hb : Back t) : Arg g t
theorem right_ok {d g : Nat} {t u : T} (hg : g ≤ 66) (ht : Arg g t) (hu : Arg g u) : f__law_right d [.int (g : Int), t, u] = .ok (.bl true) := by
  cases ht with
  | bad h hb => exact right_bad hb (due_bad1 (by omega) h) (asked_lot hb.nx (unc_bad1 (by omega) h))
  | good a ha a6 =>
    cases hu with
    | bad h hb => exact right_bad hb (due_bad2 (by omega) ha h) (asked_lot hb.nx (unc_bad2 (by omega) ha h))
    | good b hb b6 =>
      have h1 := due_good (d := d + 1) hg ha hb a6 b6
      have h2 := unc_good (d := d + 1 + 1) (by omega : g ≤ 1000) ha hb
      unfold dueN at h1
      unfold uncN at h2
      rw [cr_cross] at h2
      cases c : crossB g a b with
      | true =>
        rw [c, if_pos rfl] at h1 h2
        exact right_two h1 (asked_two rfl h2)
      | false =>
        rw [c, if_neg Bool.false_ne_true] at h1 h2
        by_cases k : nDiff (a % 2 ^ g) (b % 2 ^ g) = 0 ∨ nDiff (b % 2 ^ g) (a % 2 ^ g) = 0
        · rw [if_pos k] at h1 h2
          exact right_told h1 (asked_ok h2)
        · rw [if_neg k] at h1 h2
          exact right_told h1 (asked_ok h2)
theorem back_int (i : Int) : Back (.int i) := ⟨by simp, ⟨false, by simp [isi_tab]⟩, rfl⟩
/-- every whole number below 2 ^ 66 is an argument -/
theorem arg_int {g : Nat} {i : Int} (h : i < 2 ^ 66) : Arg g (.int i) := by
  by_cases h0 : i < 0
  · exact .bad (.no (.neg h0)) (back_int i)
  · obtain ⟨a, rfl⟩ := Int.eq_ofNat_of_zero_le (by omega : 0 ≤ i)
    have hlt := Nat.mod_lt a (Nat.two_pow_pos g)
    by_cases k1 : a % 2 ^ g = 0
    · exact .bad (.ev a (.inl k1)) (back_int _)
    · by_cases k2 : a % 2 ^ g = 2 ^ g - 1
      · exact .bad (.ev a (.inr k2)) (back_int _)
      · exact .good a ⟨by omega, by omega⟩ (by omega)
theorem popAsg_ok {i j : Nat} {k : P.Ex1} {env : Fv} {ts : List T} {m : Nat} (h : env[i]? = some (some (.ol ts))) (hk : k env = .ok (.int (m : Int))) (hm : m < ts.length) (hl : ts.length ≤ 1000) (hj : j < env.length) (hij : i ≠ j) :
    S.popAsg i j k env = .nx ((env.set i (some (.ol (ts.eraseIdx m)))).set j (some (.fz ts[m]))) := by
  unfold S.popAsg
  simp only [h, hk, Res.thenX_ok, ixN_nat hm, List.getElem?_eq_getElem hm, lfit_ok (by omega : ts.length ≤ 1000000), hj, hij, ne_eq, not_false_eq_true, and_self, if_true]
theorem erase_sum : ∀ {l : List Nat} {m : Nat} (h : m < l.length), (l.map fun k => 2 ^ k).sum = 2 ^ l[m] + ((l.eraseIdx m).map fun k => 2 ^ k).sum
  | x :: l, 0, _ => by simp
  | x :: l, m + 1, h => by
    have := erase_sum (l := l) (m := m) (by simpa using h)
    simp only [List.map_cons, List.sum_cons, List.eraseIdx_cons_succ, List.getElem_cons_succ]
    omega
end Lw

set_option Elab.async false
set_option linter.all false
set_option maxRecDepth 100000
set_option maxHeartbeats 4000000
namespace Lw
open PySem L2 Py
theorem digs_get : ∀ {xs ss : List Int} {i : Nat}, Digs xs ss → (h : i < ss.length) → ∃ x, xs[i]? = some x ∧ 0 ≤ x ∧ x < ss[i]
  | x :: xs, s :: ss, 0, h, _ => ⟨x, rfl, h.1.1, h.1.2⟩
  | x :: xs, s :: ss, i + 1, h, hi => digs_get (i := i) h.2 (by simpa using hi)
  | [], s :: ss, _, h, _ => h.elim
theorem at_row {xs : List Int} {k : Nat} {x : Int} (h : xs[k]? = some x) : atI (xs.map T.int) (k : Int) = some (.int x) := by
  have hk := (List.getElem?_eq_some_iff.mp h).1
  rw [Py.atI_nat (by simpa using hk), List.getElem?_map, h]
  rfl
theorem at_nat {l : List Nat} {k : Nat} (h : k < l.length) : atI (l.map nT) (k : Int) = some (nT l[k]) := by
  rw [Py.atI_nat (by simpa using h), List.getElem?_map, List.getElem?_eq_getElem h]
  rfl
theorem mod_nat {r : Int} {n : Nat} (h : 0 < n) : ∃ m : Nat, m < n ∧ r % (n : Int) = (m : Int) := by
  have h1 := Int.emod_nonneg r (b := (n : Int)) (by omega)
  have h2 := Int.emod_lt_of_pos r (b := (n : Int)) (by omega)
  exact ⟨(r % (n : Int)).toNat, by omega, by omega⟩
theorem shl_nat {a k : Nat} (h : k ≤ 1000000) (h2 : a < 2 ^ 64) : T.shl (.int (a : Int)) (.int (k : Int)) = some (.int ((a * 2 ^ k : Nat) : Int)) := by
  have hs : sfit (a : Int) = true := decide_eq_true (by omega)
  rw [shl_int (by omega) (by omega) hs]
  simp
theorem map_erase {l : List Nat} {m : Nat} : (l.map nT).eraseIdx m = (l.eraseIdx m).map nT := by
  induction l generalizing m with
  | nil => rfl
  | cons x l ih =>
    cases m with
    | zero => rfl
    | succ m => simp only [List.map_cons, List.eraseIdx_cons_succ, ih]
theorem seq_assoc {a b c : Sx} {env : Fv} : S.seq a (S.seq b c) env = RS.k (S.seq a b env) c := by
  unfold S.seq RS.k
  cases a env <;> rfl
theorem flat_nats (l : List Nat) : flatAll (l.map nT) = true := List.all_eq_true.mpr fun x hx => by
  obtain ⟨k, _, rfl⟩ := List.mem_map.mp hx
  rfl
theorem gates_ev (d : Nat) (c : Int) (g kind : Nat) (hg : g ≤ 6) (hk : kind < 8) : ∃ x y : Nat, x < 2 ^ g ∧ y < 2 ^ g ∧ f__law_gates d [.int c, .int (g : Int), .int (kind : Int)] = .ok (.lst none [.int (x : Int), .int (y : Int)]) := by
  obtain ⟨xs, hx, hd⟩ := digits_ev (d + 1) c none [6, 5, 4, 3, 2, 1, 12, 12, 12, 12, 12, 12] (by decide) (by decide)
  have hdig : f__law_digits (d + 1) [.int c, .lst none [.int 6, .int 5, .int 4, .int 3, .int 2, .int 1, .int 12, .int 12, .int 12, .int 12, .int 12, .int 12]] = .ok (.lst none (xs.map T.int)) := hd
  have hm12 : T.mul (.lst none [.int 12]) (.int 6) = some (.lst none [.int 12, .int 12, .int 12, .int 12, .int 12, .int 12]) := by rfl
  have had : T.add (.lst none [.int 6, .int 5, .int 4, .int 3, .int 2, .int 1]) (.lst none [.int 12, .int 12, .int 12, .int 12, .int 12, .int 12]) = some (.lst none [.int 6, .int 5, .int 4, .int 3, .int 2, .int 1, .int 12, .int 12, .int 12, .int 12, .int 12, .int 12]) := by rfl
  obtain ⟨al, ha1, ha2, ha⟩ : ∃ al : List Nat, 0 < al.length ∧ (∀ x ∈ al, x < 4) ∧ atI [T.lst none [.int 0, .int 1, .int 3], .lst none [.int 0, .int 2, .int 3], .lst none [.int 0, .int 3], .lst none [.int 0, .int 1, .int 2], .lst none [.int 1, .int 2, .int 3], .lst none [.int 1, .int 2], .lst none [.int 0, .int 1, .int 2, .int 3], .lst none [.int 0, .int 1, .int 2, .int 3]] (kind : Int) = some (.lst none (al.map nT)) := by
    match kind, hk with
    | 0, _ => exact ⟨[0, 1, 3], by decide, by decide, rfl⟩
    | 1, _ => exact ⟨[0, 2, 3], by decide, by decide, rfl⟩
    | 2, _ => exact ⟨[0, 3], by decide, by decide, rfl⟩
    | 3, _ => exact ⟨[0, 1, 2], by decide, by decide, rfl⟩
    | 4, _ => exact ⟨[1, 2, 3], by decide, by decide, rfl⟩
    | 5, _ => exact ⟨[1, 2], by decide, by decide, rfl⟩
    | 6, _ => exact ⟨[0, 1, 2, 3], by decide, by decide, rfl⟩
    | 7, _ => exact ⟨[0, 1, 2, 3], by decide, by decide, rfl⟩
  obtain ⟨ne, hn2, hn⟩ : ∃ ne : List Nat, (∀ x ∈ ne, x < 4) ∧ atI [T.lst none [.int 3, .int 0, .int 1], .lst none [.int 3, .int 0, .int 2], .lst none [.int 3, .int 0], .lst none [.int 1, .int 2, .int 0], .lst none [.int 1, .int 2, .int 3], .lst none [.int 1, .int 2], .lst none [.int 0, .int 1, .int 2, .int 3], .lst none []] (kind : Int) = some (.lst none (ne.map nT)) := by
    match kind, hk with
    | 0, _ => exact ⟨[3, 0, 1], by decide, rfl⟩
    | 1, _ => exact ⟨[3, 0, 2], by decide, rfl⟩
    | 2, _ => exact ⟨[3, 0], by decide, rfl⟩
    | 3, _ => exact ⟨[1, 2, 0], by decide, rfl⟩
    | 4, _ => exact ⟨[1, 2, 3], by decide, rfl⟩
    | 5, _ => exact ⟨[1, 2], by decide, rfl⟩
    | 6, _ => exact ⟨[0, 1, 2, 3], by decide, rfl⟩
    | 7, _ => exact ⟨[], by decide, rfl⟩
  have hr : rfit (g : Int) = true := rfit_ok (by omega) (by omega)
  have e0 : rng 0 g = (List.range g).map nT := rng_nat g
  have hlr : lfit (List.range g).length = true := lfit_ok (by simp; omega)
  have hcomp := filtC (d := d) (i := 10) (b := P.yes) (env := [some (.fz (.int c)), some (.fz (.int (g : Int))), some (.fz (.int (kind : Int))), some (.fz (.lst none (xs.map T.int))), none, none, none, none, none, none, none, none]) (c := fun _ => true) (List.range g) (by simp) (fun x _ => rfl)
  rw [List.filter_eq_self.mpr (fun _ _ => rfl)] at hcomp
  have hf := turns_pre (tg := S.tName 9) (body := S.seq (S.popAsg 4 10 (P.bin T.mod (P.call (fun ts => .of (B.int ts)) (P.cons (P.bin T.ix (P.var d 3) (P.var d 9)) P.nil)) (P.call (fun ts => .of (B.len ts)) (P.cons (P.var d 4) P.nil))))
    (S.seq (S.asg 11 (P.bin T.ix (P.var d 5) (P.bin T.mod (P.call (fun ts => .of (B.int ts)) (P.cons (P.bin T.ix (P.var d 3) (P.bin T.add (P.c (.int 6)) (P.var d 9))) P.nil)) (P.call (fun ts => .of (B.len ts)) (P.cons (P.var d 5) P.nil)))))
    (S.seq (S.ite (P.tb (P.bin T.lt (P.var d 9) (P.call (fun ts => .of (B.len ts)) (P.cons (P.var d 6) P.nil))))
    (S.asg 11 (P.bin T.ix (P.var d 6) (P.var d 9)))
    S.skip)
    (S.seq (S.asg 7 (P.bin T.add (P.var d 7) (P.bin T.shl (P.bin T.fdiv (P.var d 11) (P.c (.int 2))) (P.var d 10))))
    (S.asg 8 (P.bin T.add (P.var d 8) (P.bin T.shl (P.bin T.mod (P.call (fun ts => .of (B.int ts)) (P.cons (P.var d 11) P.nil)) (P.c (.int 2))) (P.var d 10)))))))) (g := nT)
    (R := fun p e => ∃ (l : List Nat) (x y : Nat) (o9 o10 o11 : Option Sl), l.length + p.length = g ∧ (∀ z ∈ l, z < g) ∧ (l.map fun k => 2 ^ k).sum + x ≤ 2 ^ g - 1 ∧ (l.map fun k => 2 ^ k).sum + y ≤ 2 ^ g - 1 ∧
      e = [some (.fz (.int c)), some (.fz (.int (g : Int))), some (.fz (.int (kind : Int))), some (.fz (.lst none (xs.map T.int))), some (.ol (l.map nT)), some (.fz (.lst none (al.map nT))), some (.fz (.lst none (ne.map nT))), some (.fz (.int (x : Int))), some (.fz (.int (y : Int))), o9, o10, o11]) (List.range g) []
    [some (.fz (.int c)), some (.fz (.int (g : Int))), some (.fz (.int (kind : Int))), some (.fz (.lst none (xs.map T.int))), some (.ol ((List.range g).map nT)), some (.fz (.lst none (al.map nT))), some (.fz (.lst none (ne.map nT))), some (.fz (.int 0)), some (.fz (.int 0)), none, none, none] (by
      rintro p k post e hp ⟨l, x, y, o9, o10, o11, w1, w2, w3, w4, rfl⟩
      obtain ⟨hk1, hk2⟩ := range_pre (show List.range g = p ++ k :: post from hp)
      obtain ⟨r, hr1, hr2, -⟩ := digs_get (i := k) hx (by simp; omega)
      obtain ⟨r', hr1', hr2', -⟩ := digs_get (i := 6 + k) hx (by simp; omega)
      have a1 := at_row hr1
      have a2 := at_row hr1'
      have a2' : atI (xs.map T.int) (6 + (k : Int)) = some (.int r') := by
        have : ((6 + k : Nat) : Int) = 6 + (k : Int) := by omega
        rw [← this]
        exact a2
      have hlen : 0 < l.length := by omega
      obtain ⟨m, hm, em⟩ := mod_nat (r := r) hlen
      obtain ⟨m', hm', em'⟩ := mod_nat (r := r') ha1
      have hpop := popAsg_ok (i := 4) (j := 10) (k := P.bin T.mod (P.call (fun ts => .of (B.int ts)) (P.cons (P.bin T.ix (P.var d 3) (P.var d 9)) P.nil)) (P.call (fun ts => .of (B.len ts)) (P.cons (P.var d 4) P.nil)))
        (env := [some (.fz (.int c)), some (.fz (.int (g : Int))), some (.fz (.int (kind : Int))), some (.fz (.lst none (xs.map T.int))), some (.ol (l.map nT)), some (.fz (.lst none (al.map nT))), some (.fz (.lst none (ne.map nT))), some (.fz (.int (x : Int))), some (.fz (.int (y : Int))), some (.fz (nT k)), o10, o11]) (ts := l.map nT) (m := m) rfl (by
          have hl0 : (0 : Int) < (l.length : Int) := by omega
          simp [a1, mod_int hl0, em]) (by simpa using hm) (by simp; omega) (by simp) (by decide)
      have hgate : l[m] < g := w2 _ (List.getElem_mem hm)
      have hsum := erase_sum hm
      have hpop2 : (l.map nT).eraseIdx m = (l.eraseIdx m).map nT := map_erase
      have hget : (l.map nT)[m]'(by simpa using hm) = nT l[m] := by simp
      rw [hpop2, hget] at hpop
      obtain ⟨co, hco, ec⟩ : ∃ co : Nat, co < 4 ∧ (S.seq (S.asg 11 (P.bin T.ix (P.var d 5) (P.bin T.mod (P.call (fun ts => .of (B.int ts)) (P.cons (P.bin T.ix (P.var d 3) (P.bin T.add (P.c (.int 6)) (P.var d 9))) P.nil)) (P.call (fun ts => .of (B.len ts)) (P.cons (P.var d 5) P.nil)))))
          (S.ite (P.tb (P.bin T.lt (P.var d 9) (P.call (fun ts => .of (B.len ts)) (P.cons (P.var d 6) P.nil)))) (S.asg 11 (P.bin T.ix (P.var d 6) (P.var d 9))) S.skip))
          [some (.fz (.int c)), some (.fz (.int (g : Int))), some (.fz (.int (kind : Int))), some (.fz (.lst none (xs.map T.int))), some (.ol ((l.eraseIdx m).map nT)), some (.fz (.lst none (al.map nT))), some (.fz (.lst none (ne.map nT))), some (.fz (.int (x : Int))), some (.fz (.int (y : Int))), some (.fz (nT k)), some (.fz (nT l[m])), o11]
          = .nx [some (.fz (.int c)), some (.fz (.int (g : Int))), some (.fz (.int (kind : Int))), some (.fz (.lst none (xs.map T.int))), some (.ol ((l.eraseIdx m).map nT)), some (.fz (.lst none (al.map nT))), some (.fz (.lst none (ne.map nT))), some (.fz (.int (x : Int))), some (.fz (.int (y : Int))), some (.fz (nT k)), some (.fz (nT l[m])), some (.fz (nT co))] := by
        have ha0 : (0 : Int) < (al.length : Int) := by omega
        have a3 := at_nat hm'
        by_cases ck : k < ne.length
        · refine ⟨ne[k], hn2 _ (List.getElem_mem ck), ?_⟩
          have a4 := at_nat ck
          have ck' : (k : Int) < (ne.length : Int) := by omega
          simp [a2', mod_int ha0, em', a3, ck, a4]
        · refine ⟨al[m'], ha2 _ (List.getElem_mem hm'), ?_⟩
          have ck' : ¬ (k : Int) < (ne.length : Int) := by omega
          simp [a2', mod_int ha0, em', a3, ck]
      have d2 : dfit 2 = true := rfl
      have f1 : T.fdiv (nT co) (.int 2) = some (nT (co / 2)) := by rw [fdiv_int (by decide) d2]; simp
      have f2 : T.mod (nT co) (.int 2) = some (nT (co % 2)) := by rw [Py.mod_int (by decide)]; simp
      have s1 := shl_nat (a := co / 2) (k := l[m]) (by omega) (by omega)
      have s2 := shl_nat (a := co % 2) (k := l[m]) (by omega) (by omega)
      have b1 : co / 2 * 2 ^ l[m] ≤ 2 ^ l[m] := by
        have : co / 2 ≤ 1 := by omega
        calc co / 2 * 2 ^ l[m] ≤ 1 * 2 ^ l[m] := Nat.mul_le_mul_right _ this
          _ = 2 ^ l[m] := Nat.one_mul _
      have b2 : co % 2 * 2 ^ l[m] ≤ 2 ^ l[m] := by
        have : co % 2 ≤ 1 := by omega
        calc co % 2 * 2 ^ l[m] ≤ 1 * 2 ^ l[m] := Nat.mul_le_mul_right _ this
          _ = 2 ^ l[m] := Nat.one_mul _
      refine ⟨_, _, rfl, .inl ?_, l.eraseIdx m, x + co / 2 * 2 ^ l[m], y + co % 2 * 2 ^ l[m], some (.fz (nT k)), some (.fz (nT l[m])), some (.fz (nT co)), ?_, ?_, ?_, ?_, rfl⟩
      · refine Eq.trans (congrArg (fun r => RS.k r _) hpop) ?_
        refine Eq.trans (k_nx) ?_
        refine Eq.trans seq_assoc ?_
        refine Eq.trans (congrArg (fun r => RS.k r _) ec) ?_
        simp [f1, f2, s1, s2]
      · rw [List.length_eraseIdx_of_lt hm, List.length_append, List.length_singleton]; omega
      · exact fun z hz => w2 z (List.mem_of_mem_eraseIdx hz)
      · omega
      · omega) ⟨List.range g, 0, 0, none, none, none, by simp, fun z hz => List.mem_range.mp hz, by
        have := pow_sum (fun _ => true) g
        rw [List.filter_eq_self.mpr (fun _ _ => rfl), sumB_all] at this
        omega, by
        have := pow_sum (fun _ => true) g
        rw [List.filter_eq_self.mpr (fun _ _ => rfl), sumB_all] at this
        omega, rfl⟩
  obtain ⟨e, h1, l, x, y, o9, o10, o11, w1, w2, w3, w4, rfl⟩ := hf
  have hp := Nat.two_pow_pos g
  refine ⟨x, y, by omega, by omega, ?_⟩
  have hlg : lfit g = true := lfit_ok (by omega)
  simp [f__law_gates, run_eq, ent_eq, S__law_gates, lfit_ok, hlg, flat_nats, hm12, had, hdig, hr, e0, hlr, hcomp, ha, hn, h1]
theorem rep4 (n : Nat) : (List.replicate n [T.int 4]).flatten = (List.replicate n (4 : Int)).map T.int := by
  induction n with
  | zero => rfl
  | succ n ih => rw [List.replicate_succ, List.flatten_cons, ih, List.replicate_succ, List.map_cons]; rfl
theorem inner_ev (d : Nat) (c : Int) (g count : Nat) (hg : g ≤ 6) (hc : count ≤ 60) : ∃ x y : Nat, x + 2 ^ g ≤ 2 ^ (g + count) ∧ y + 2 ^ g ≤ 2 ^ (g + count) ∧ f__law_inner d [.int c, .int (g : Int), .int (count : Int)] = .ok (.lst none [.int (x : Int), .int (y : Int)]) := by
  obtain ⟨xs, hx, hd⟩ := digits_ev (d + 1) c none (List.replicate count 4) (fun s hs => by rw [List.eq_of_mem_replicate hs]; decide) (by simp; omega)
  have hdig : f__law_digits (d + 1) [.int c, .lst none ((List.replicate count (4 : Int)).map T.int)] = .ok (.lst none (xs.map T.int)) := hd
  have hm : T.mul (.lst none [.int 4]) (.int (count : Int)) = some (.lst none ((List.replicate count (4 : Int)).map T.int)) := by
    have hc1 : (decide (-(2 ^ 63 : Int) ≤ (count : Int)) && decide ((count : Int) < 2 ^ 63) && lfit (([T.int 4] : List T).length * ((count : Int)).toNat)) = true := by
      rw [decide_eq_true (by omega), decide_eq_true (by omega), lfit_ok (by simp; omega)]
      rfl
    have e : T.mul (.lst none [.int 4]) (.int (count : Int)) = if (decide (-(2 ^ 63 : Int) ≤ (count : Int)) && decide ((count : Int) < 2 ^ 63) && lfit (([T.int 4] : List T).length * ((count : Int)).toNat)) = true then some (.lst none (List.replicate ((count : Int)).toNat [T.int 4]).flatten) else none := rfl
    rw [e, if_pos hc1, Int.toNat_natCast, rep4]
  have hr : rfit (count : Int) = true := rfit_ok (by omega) (by omega)
  have e0 : rng 0 count = (List.range count).map nT := rng_nat count
  have hf := turns_pre (tg := S.tName 6) (body := S.seq (S.asg 4 (P.bin T.add (P.var d 4) (P.bin T.shl (P.bin T.fdiv (P.bin T.ix (P.var d 3) (P.var d 6)) (P.c (.int 2))) (P.bin T.add (P.var d 1) (P.var d 6)))))
    (S.asg 5 (P.bin T.add (P.var d 5) (P.bin T.shl (P.bin T.mod (P.call (fun ts => .of (B.int ts)) (P.cons (P.bin T.ix (P.var d 3) (P.var d 6)) P.nil)) (P.c (.int 2))) (P.bin T.add (P.var d 1) (P.var d 6)))))) (g := nT)
    (R := fun p e => ∃ (x y : Nat) (o : Option Sl), x + 2 ^ g ≤ 2 ^ (g + p.length) ∧ y + 2 ^ g ≤ 2 ^ (g + p.length) ∧ e = [some (.fz (.int c)), some (.fz (.int (g : Int))), some (.fz (.int (count : Int))), some (.fz (.lst none (xs.map T.int))), some (.fz (.int (x : Int))), some (.fz (.int (y : Int))), o]) (List.range count) []
    [some (.fz (.int c)), some (.fz (.int (g : Int))), some (.fz (.int (count : Int))), some (.fz (.lst none (xs.map T.int))), some (.fz (.int 0)), some (.fz (.int 0)), none] (by
      rintro p k post e hp ⟨x, y, o, w1, w2, rfl⟩
      obtain ⟨hk1, hk2⟩ := range_pre (show List.range count = p ++ k :: post from hp)
      obtain ⟨r, hr1, hr2, hr3⟩ := digs_get (i := k) hx (by simpa using hk2)
      have hr3' : r < 4 := by simpa using hr3
      obtain ⟨q, rfl⟩ := Int.eq_ofNat_of_zero_le hr2
      have a1 := at_row hr1
      have d2 : dfit 2 = true := rfl
      have f1 : T.fdiv (.int (q : Int)) (.int 2) = some (nT (q / 2)) := by rw [fdiv_int (by decide) d2]; simp
      have f2 : T.mod (.int (q : Int)) (.int 2) = some (nT (q % 2)) := by rw [Py.mod_int (by decide)]; simp
      have s1 := shl_nat (a := q / 2) (k := g + k) (by omega) (by omega)
      have s2 := shl_nat (a := q % 2) (k := g + k) (by omega) (by omega)
      have s1' : T.shl (nT (q / 2)) (.int ((g : Int) + (k : Int))) = some (.int ((q / 2 * 2 ^ (g + k) : Nat) : Int)) := by
        have : ((g + k : Nat) : Int) = (g : Int) + (k : Int) := by omega
        rw [← this]; exact s1
      have s2' : T.shl (nT (q % 2)) (.int ((g : Int) + (k : Int))) = some (.int ((q % 2 * 2 ^ (g + k) : Nat) : Int)) := by
        have : ((g + k : Nat) : Int) = (g : Int) + (k : Int) := by omega
        rw [← this]; exact s2
      have b1 : q / 2 * 2 ^ (g + k) ≤ 2 ^ (g + k) := by
        calc q / 2 * 2 ^ (g + k) ≤ 1 * 2 ^ (g + k) := Nat.mul_le_mul_right _ (by omega)
          _ = 2 ^ (g + k) := Nat.one_mul _
      have b2 : q % 2 * 2 ^ (g + k) ≤ 2 ^ (g + k) := by
        calc q % 2 * 2 ^ (g + k) ≤ 1 * 2 ^ (g + k) := Nat.mul_le_mul_right _ (by omega)
          _ = 2 ^ (g + k) := Nat.one_mul _
      have hpw : 2 ^ (g + (k + 1)) = 2 ^ (g + k) * 2 := Nat.pow_succ ..
      rw [← hk1] at w1 w2
      refine ⟨_, _, rfl, .inl ?_, x + q / 2 * 2 ^ (g + k), y + q % 2 * 2 ^ (g + k), some (.fz (nT k)), ?_, ?_, rfl⟩
      · generalize q / 2 * 2 ^ (g + k) = u at *
        generalize q % 2 * 2 ^ (g + k) = v at *
        simp [a1, f1, f2, s1', s2']
      · rw [List.length_append, List.length_singleton, ← hk1, hpw]; omega
      · rw [List.length_append, List.length_singleton, ← hk1, hpw]; omega) ⟨0, 0, none, by simp, by simp, rfl⟩
  obtain ⟨e, h1, x, y, o, w1, w2, rfl⟩ := hf
  rw [List.nil_append, List.length_range] at w1 w2
  refine ⟨x, y, w1, w2, ?_⟩
  have hm' := hm
  simp [-List.map_replicate, f__law_inner, run_eq, ent_eq, S__law_inner, lfit_ok, hm, hdig, hr, e0, flat_nats, h1]
end Lw

set_option Elab.async false
set_option linter.all false
set_option maxRecDepth 100000
set_option maxHeartbeats 4000000
namespace Lw
open PySem L2 Py
theorem cell_all (ns : List Int) (k : Nat) (hk : k ≤ 1000000) : ∃ c : Int, f__law_cell (1 + 1) [.ro (ns.map T.int), .int (k : Int)] = .ok (.int c) := cell_ev 2 ns k hk
def pT (q : Int × Int) : T := .lst none [.int q.1, .int q.2]
def tT (q : T × T) : T := .lst none [q.1, q.2]
/-- the checks of some pairs -/
theorem checks {g : Nat} (hg : g ≤ 66) (ps : List (T × T)) (hps : ∀ q ∈ ps, Arg g q.1 ∧ Arg g q.2) {t0 t1 t3 t4 t5 t6 t7 t8 t10 t11 t12 t13 : Option Sl} (o : Option Sl) : ∃ o', S.turns (S.tName 9) ((S.ite (P.not (P.tb (P.call (f__law_right (1 + 1)) (P.cons (P.var 1 2) (P.cons (P.bin T.ix (P.var 1 9) (P.c (.int 0))) (P.cons (P.bin T.ix (P.var 1 9) (P.c (.int 1))) P.nil))))))
  (S.ret (P.c (.bl false)))
  S.skip)) (ps.map tT)
    [t0, t1, some (.fz (.int (g : Int))), t3, t4, t5, t6, t7, t8, o, t10, t11, t12, t13] = .nx [t0, t1, some (.fz (.int (g : Int))), t3, t4, t5, t6, t7, t8, o', t10, t11, t12, t13] := by
  obtain ⟨e, h, o', rfl⟩ := turns_fold (tg := S.tName 9) (body := (S.ite (P.not (P.tb (P.call (f__law_right (1 + 1)) (P.cons (P.var 1 2) (P.cons (P.bin T.ix (P.var 1 9) (P.c (.int 0))) (P.cons (P.bin T.ix (P.var 1 9) (P.c (.int 1))) P.nil))))))
  (S.ret (P.c (.bl false)))
  S.skip)) (g := tT) (step := fun (_ : Unit) (_ : T × T) => ()) (R := fun _ e => ∃ o, e = [t0, t1, some (.fz (.int (g : Int))), t3, t4, t5, t6, t7, t8, o, t10, t11, t12, t13]) ps () [t0, t1, some (.fz (.int (g : Int))), t3, t4, t5, t6, t7, t8, o, t10, t11, t12, t13] (by
    rintro - q e hq ⟨o, rfl⟩
    obtain ⟨h1, h2⟩ := hps q hq
    have hr := right_ok (d := 1 + 1) hg h1 h2
    refine ⟨_, _, rfl, .inl ?_, some (.fz (tT q)), rfl⟩
    simp [tT, at0, at1, hr]) ⟨o, rfl⟩
  exact ⟨o', h⟩
theorem checks2 {g : Nat} (hg : g ≤ 66) (ps : List (Int × Int)) (hps : ∀ q ∈ ps, q.1 < 2 ^ 66 ∧ q.2 < 2 ^ 66) {t0 t1 t3 t4 t5 t6 t7 t8 t10 t11 t12 t13 : Option Sl} (o : Option Sl) : ∃ o', S.turns (S.tName 9) ((S.ite (P.or (P.not (P.tb (P.call (f__law_right (1 + 1)) (P.cons (P.var 1 2) (P.cons (P.bin T.ix (P.var 1 9) (P.c (.int 0))) (P.cons (P.bin T.ix (P.var 1 9) (P.c (.int 1))) P.nil)))))) (P.not (P.tb (P.call (f__law_right (1 + 1)) (P.cons (P.var 1 2) (P.cons (P.bin T.ix (P.var 1 9) (P.c (.int 1))) (P.cons (P.bin T.ix (P.var 1 9) (P.c (.int 0))) P.nil)))))))
  (S.ret (P.c (.bl false)))
  S.skip)) (ps.map pT)
    [t0, t1, some (.fz (.int (g : Int))), t3, t4, t5, t6, t7, t8, o, t10, t11, t12, t13] = .nx [t0, t1, some (.fz (.int (g : Int))), t3, t4, t5, t6, t7, t8, o', t10, t11, t12, t13] := by
  obtain ⟨e, h, o', rfl⟩ := turns_fold (tg := S.tName 9) (body := (S.ite (P.or (P.not (P.tb (P.call (f__law_right (1 + 1)) (P.cons (P.var 1 2) (P.cons (P.bin T.ix (P.var 1 9) (P.c (.int 0))) (P.cons (P.bin T.ix (P.var 1 9) (P.c (.int 1))) P.nil)))))) (P.not (P.tb (P.call (f__law_right (1 + 1)) (P.cons (P.var 1 2) (P.cons (P.bin T.ix (P.var 1 9) (P.c (.int 1))) (P.cons (P.bin T.ix (P.var 1 9) (P.c (.int 0))) P.nil)))))))
  (S.ret (P.c (.bl false)))
  S.skip)) (g := pT) (step := fun (_ : Unit) (_ : Int × Int) => ()) (R := fun _ e => ∃ o, e = [t0, t1, some (.fz (.int (g : Int))), t3, t4, t5, t6, t7, t8, o, t10, t11, t12, t13]) ps () [t0, t1, some (.fz (.int (g : Int))), t3, t4, t5, t6, t7, t8, o, t10, t11, t12, t13] (by
    rintro - q e hq ⟨o, rfl⟩
    obtain ⟨h1, h2⟩ := hps q hq
    have hr := right_ok (d := 1 + 1) hg (arg_int (g := g) h1) (arg_int (g := g) h2)
    have hr2 := right_ok (d := 1 + 1) hg (arg_int (g := g) h2) (arg_int (g := g) h1)
    refine ⟨_, _, rfl, .inl ?_, some (.fz (pT q)), rfl⟩
    simp [pT, at0, at1, hr, hr2]) ⟨o, rfl⟩
  exact ⟨o', h⟩
theorem back1 {t : Option Tag} {i : Int} : Back (.lst t [.int i]) := ⟨by
  have e : T.eq (.lst t [.int i]) (.lst t [.int i]) = some (.bl ((i == i) && true)) := rfl
  rw [e, beq_self_eq_true]
  rfl, ⟨false, by simp [isi_tab]⟩, rfl⟩
theorem back2 {i : Int} : Back (.tup [.int i]) := ⟨by
  have e : T.eq (.tup [.int i]) (.tup [.int i]) = some (.bl ((i == i) && true)) := rfl
  rw [e, beq_self_eq_true]
  rfl, ⟨false, by simp [isi_tab]⟩, rfl⟩
theorem ev_law (ns : List Int) : f_law 1 [.ro (ns.map T.int)] = .ok (.bl true) := by
  obtain ⟨c0, hc0⟩ := cell_all ns 0 (by omega)
  have hc0' : f__law_cell (1 + 1) [.ro (ns.map T.int), .int 0] = .ok (.int c0) := hc0
  obtain ⟨xs, hx, hd⟩ := digits_ev (1 + 1) c0 none [8, 8, 8, 19, 19, 62] (by decide) (by decide)
  match xs, hx with
  | [h0, h1, h2, h3, h4, h5], hx =>
  obtain ⟨b0, b1, b2, b3, b4, b5, -⟩ := hx
  have hdig : f__law_digits (1 + 1) [.int c0, .lst none [.int 8, .int 8, .int 8, .int 19, .int 19, .int 62]] = .ok (.lst none [.int h0, .int h1, .int h2, .int h3, .int h4, .int h5]) := hd
  have g0 : ∀ {x y z u v w : T}, atI [x, y, z, u, v, w] 0 = some x := fun {x y z u v w} => rfl
  have g1 : ∀ {x y z u v w : T}, atI [x, y, z, u, v, w] 1 = some y := fun {x y z u v w} => rfl
  have g2 : ∀ {x y z u v w : T}, atI [x, y, z, u, v, w] 2 = some z := fun {x y z u v w} => rfl
  have g3 : ∀ {x y z u v w : T}, atI [x, y, z, u, v, w] 3 = some u := fun {x y z u v w} => rfl
  have g4 : ∀ {x y z u v w : T}, atI [x, y, z, u, v, w] 4 = some v := fun {x y z u v w} => rfl
  have g5 : ∀ {x y z u v w : T}, atI [x, y, z, u, v, w] 5 = some w := fun {x y z u v w} => rfl
  obtain ⟨g, hg2, hg6, hgm⟩ : ∃ g : Nat, 2 ≤ g ∧ g ≤ 6 ∧ atI [T.int 4, .int 5, .int 6, .int 4, .int 5, .int 3, .int 6, .int 2] h0 = some (.int (g : Int)) := by
    obtain ⟨k, rfl⟩ := Int.eq_ofNat_of_zero_le b0.1
    have hk : k < 8 := by omega
    match k, hk with
    | 0, _ => exact ⟨4, by omega, by omega, rfl⟩
    | 1, _ => exact ⟨5, by omega, by omega, rfl⟩
    | 2, _ => exact ⟨6, by omega, by omega, rfl⟩
    | 3, _ => exact ⟨4, by omega, by omega, rfl⟩
    | 4, _ => exact ⟨5, by omega, by omega, rfl⟩
    | 5, _ => exact ⟨3, by omega, by omega, rfl⟩
    | 6, _ => exact ⟨6, by omega, by omega, rfl⟩
    | 7, _ => exact ⟨2, by omega, by omega, rfl⟩
  obtain ⟨count, hcm, hcn⟩ : ∃ n : Nat, n ≤ 60 ∧ atI [T.int 3, .int 2, .int 4, .int 60, .int 1, .int 5, .int 0, .int 3] h1 = some (.int (n : Int)) := by
    obtain ⟨k, rfl⟩ := Int.eq_ofNat_of_zero_le b1.1
    have hk : k < 8 := by omega
    match k, hk with
    | 0, _ => exact ⟨3, by omega, rfl⟩
    | 1, _ => exact ⟨2, by omega, rfl⟩
    | 2, _ => exact ⟨4, by omega, rfl⟩
    | 3, _ => exact ⟨60, by omega, rfl⟩
    | 4, _ => exact ⟨1, by omega, rfl⟩
    | 5, _ => exact ⟨5, by omega, rfl⟩
    | 6, _ => exact ⟨0, by omega, rfl⟩
    | 7, _ => exact ⟨3, by omega, rfl⟩
  have hs := shl_one (j := (g : Int)) (by omega) (by omega)
  have hp : ((2 ^ g : Nat) : Int) = 2 ^ g := by simp
  have hp4 : 4 ≤ (2 : Nat) ^ g := Nat.le_trans (show 4 ≤ 2 ^ 2 by omega) (Nat.pow_le_pow_right (by omega) hg2)
  have hp64 : (2 : Nat) ^ g ≤ 64 := Nat.le_trans (Nat.pow_le_pow_right (by omega) hg6) (by omega)
  have hr6 : rfit 6 = true := rfit_ok (by omega) (by omega)
  have hr19 : rfit 19 = true := rfit_ok (by omega) (by omega)
  have pw66 : 2 ^ (g + count) ≤ (2 : Nat) ^ 66 := Nat.pow_le_pow_right (by omega) (by omega)
  -- the pairs
  have hA := turns_pre (tg := S.tName 6) (body := (S.seq (S.asg 7 (P.call (f__law_gates (1 + 1)) (P.cons (P.call (f__law_cell (1 + 1)) (P.cons (P.var 1 0) (P.cons (P.bin T.add (P.c (.int 1)) (P.bin T.mul (P.c (.int 2)) (P.var 1 6))) P.nil))) (P.cons (P.var 1 2) (P.cons (P.bin T.mod (P.call (fun ts => .of (B.int ts)) (P.cons (P.bin T.add (P.bin T.ix (P.var 1 1) (P.c (.int 2))) (P.var 1 6)) P.nil)) (P.c (.int 8))) P.nil)))))
  (S.seq (S.asg 8 (P.call (f__law_inner (1 + 1)) (P.cons (P.call (f__law_cell (1 + 1)) (P.cons (P.var 1 0) (P.cons (P.bin T.add (P.c (.int 2)) (P.bin T.mul (P.c (.int 2)) (P.var 1 6))) P.nil))) (P.cons (P.var 1 2) (P.cons (P.var 1 3) P.nil)))))
  (S.app 5 (P.lst (P.cons (P.bin T.add (P.bin T.ix (P.var 1 7) (P.c (.int 0))) (P.bin T.ix (P.var 1 8) (P.c (.int 0)))) (P.cons (P.bin T.add (P.bin T.ix (P.var 1 7) (P.c (.int 1))) (P.bin T.ix (P.var 1 8) (P.c (.int 1)))) P.nil))))))) (g := nT) (R := fun p e => ∃ (ps : List (Int × Int)) (o6 o7 o8 : Option Sl), (∀ q ∈ ps, q.1 < 2 ^ 66 ∧ q.2 < 2 ^ 66) ∧ ps.length = p.length ∧
      e = [some (.fz (.ro (ns.map T.int))), some (.fz (.lst none [.int h0, .int h1, .int h2, .int h3, .int h4, .int h5])), some (.fz (.int (g : Int))), some (.fz (.int (count : Int))), some (.fz (.int (2 ^ g - 1))), some (.ol (ps.map pT)), o6, o7, o8, none, none, none, none, none]) (List.range 6) []
    [some (.fz (.ro (ns.map T.int))), some (.fz (.lst none [.int h0, .int h1, .int h2, .int h3, .int h4, .int h5])), some (.fz (.int (g : Int))), some (.fz (.int (count : Int))), some (.fz (.int (2 ^ g - 1))), some (.ol []), none, none, none, none, none, none, none, none] (by
      rintro p k post e hpp ⟨ps, o6, o7, o8, w1, w2, rfl⟩
      obtain ⟨hk1, hk2⟩ := range_pre (show List.range 6 = p ++ k :: post from hpp)
      obtain ⟨ca, hca⟩ := cell_all ns (1 + 2 * k) (by omega)
      obtain ⟨cb, hcb⟩ := cell_all ns (2 + 2 * k) (by omega)
      have ea : ((1 + 2 * k : Nat) : Int) = 1 + 2 * (k : Int) := by omega
      have eb : ((2 + 2 * k : Nat) : Int) = 2 + 2 * (k : Int) := by omega
      rw [ea] at hca
      rw [eb] at hcb
      have m2 : T.mul (.int 2) (.int (k : Int)) = some (.int (2 * (k : Int))) := mul_small (nat_lt_big (by omega) (by omega)) (nat_lt_big (by omega) (by omega))
      obtain ⟨kind, hkind, ek⟩ := mod_nat (r := h2 + (k : Int)) (n := 8) (by omega)
      have ek' : (h2 + (k : Int)) % 8 = (kind : Int) := ek
      obtain ⟨x, y, hx1, hy1, hgt⟩ := gates_ev (1 + 1) ca g kind hg6 hkind
      obtain ⟨x2, y2, hx2, hy2, hin⟩ := inner_ev (1 + 1) cb g count hg6 hcm
      have hfit : ps.length < sizeLine := Nat.lt_of_le_of_lt (show ps.length ≤ 6 by omega) (by decide)
      refine ⟨_, _, rfl, .inl ?_, ps ++ [((x : Int) + (x2 : Int), (y : Int) + (y2 : Int))], some (.fz (nT k)), some (.fz (.lst none [.int (x : Int), .int (y : Int)])), some (.fz (.lst none [.int (x2 : Int), .int (y2 : Int)])), ?_, ?_, rfl⟩
      · simp [hca, hcb, m2, g2, Py.mod_int, ek', hgt, hin, at0, at1, lfit_ok, hfit, pT]
      · intro q hq
        rcases List.mem_append.mp hq with hq | hq
        · exact w1 q hq
        · cases List.mem_singleton.mp hq
          simp only
          omega
      · simp [w2]) ⟨[], none, none, none, fun _ h => (nomatch h), rfl, rfl⟩
  obtain ⟨eA, wA, ps, o6, o7, o8, w1, w2, rfl⟩ := hA
  have e6 : rng 0 6 = (List.range 6).map nT := rng_nat 6
  have e19 : rng 0 19 = (List.range 19).map nT := rng_nat 19
  obtain ⟨o9, wB⟩ := checks2 (g := g) (by omega) ps w1 (t0 := some (.fz (.ro (ns.map T.int)))) (t1 := some (.fz (.lst none [.int h0, .int h1, .int h2, .int h3, .int h4, .int h5]))) (t3 := some (.fz (.int (count : Int)))) (t4 := some (.fz (.int (2 ^ g - 1)))) (t5 := some (.fz (.lst none (ps.map pT)))) (t6 := o6) (t7 := o7) (t8 := o8) (t10 := none) (t11 := none) (t12 := none) (t13 := none) none
  -- good, beyond
  obtain ⟨good, hgood, egood⟩ : ∃ x : Int, (0 < x ∧ x < 2 ^ g - 1) ∧ 1 + h5 % (2 ^ g - 1 - 1) = x := by
    have k1 := Int.emod_nonneg h5 (b := 2 ^ g - 1 - 1) (by omega)
    have k2 := Int.emod_lt_of_pos h5 (b := 2 ^ g - 1 - 1) (by omega)
    exact ⟨_, ⟨by omega, by omega⟩, rfl⟩
  obtain ⟨s, hs60, es⟩ := mod_nat (r := h5) (n := 60) (by omega)
  have es' : h5 % 60 = (s : Int) := es
  have hsb := shl_one (j := (g : Int) + (s : Int)) (by omega) (by omega)
  obtain ⟨bey, hbey, ebey⟩ : ∃ x : Int, (0 < x ∧ x ≤ 2 ^ 65) ∧ (2 : Int) ^ ((g : Int) + (s : Int)).toNat = x := by
    have e : ((g : Int) + (s : Int)).toNat = g + s := by omega
    have k1 : (2 : Nat) ^ (g + s) ≤ 2 ^ 65 := Nat.pow_le_pow_right (by omega) (by omega)
    have k2 := Nat.two_pow_pos (g + s)
    have k3 : ((2 ^ (g + s) : Nat) : Int) = 2 ^ (g + s) := by simp
    exact ⟨_, ⟨by rw [e]; omega, by rw [e]; omega⟩, rfl⟩
  rw [ebey] at hsb
  have dm : (0 : Int) < 2 ^ g - 1 - 1 := by omega
  obtain ⟨full, hfull⟩ : ∃ x : Int, (2 : Int) ^ g - 1 = x := ⟨_, rfl⟩
  obtain ⟨pg, hpg⟩ : ∃ x : Int, (2 : Int) ^ g = x := ⟨_, rfl⟩
  have hs' : T.shl (.int 1) (.int (g : Int)) = some (.int pg) := by rw [hs, ← hpg]; rfl
  have hpg2 : 4 ≤ pg ∧ pg ≤ 64 := by omega
  have hfe : full = pg - 1 := by omega
  rw [hfull] at wA wB egood hgood dm
  obtain ⟨BL, hBL⟩ : ∃ l : List T, l = [.int 0, .int full, .int (full + bey), .int bey, .int (-1), .int (-2), .int (-1 - good), .bl true, .bl false, .non, .str "", .str "3", .str "q", .tup [.int 1, .int 2], .lst none [.int good], .int (full + pg), .int pg, .int (-bey), .tup [.int good]] := ⟨_, rfl⟩
  obtain ⟨NL, hNL⟩ : ∃ l : List T, l = [.int 1, .int (full - 1), .int (full - 1 + bey), .int (1 + bey), .int 2, .int good, .int (good + bey), .int 1, .int 2, .int (full - 1), .int 1, .int 3, .int 1, .int 1, .int good, .int (full - 1 + pg), .int (1 + pg), .int (1 + bey), .int good] := ⟨_, rfl⟩
  have aBL : ∀ t ∈ BL, Arg g t := by
    rw [hBL]
    simp only [List.forall_mem_cons]
    refine ⟨arg_int (by omega), arg_int (by omega), arg_int (by omega), arg_int (by omega), arg_int (by omega), arg_int (by omega), arg_int (by omega), .bad (.no (.bl _)) ⟨rfl, ⟨true, by simp [isi_tab]⟩, rfl⟩, .bad (.no (.bl _)) ⟨rfl, ⟨true, by simp [isi_tab]⟩, rfl⟩, .bad (.no .non) ⟨rfl, ⟨false, by simp [isi_tab]⟩, rfl⟩,
      .bad (.no (.str _)) ⟨by kernel_rfl, ⟨false, by simp [isi_tab]⟩, rfl⟩, .bad (.no (.str _)) ⟨by kernel_rfl, ⟨false, by simp [isi_tab]⟩, rfl⟩, .bad (.no (.str _)) ⟨by kernel_rfl, ⟨false, by simp [isi_tab]⟩, rfl⟩, .bad (.no (.tup _)) ⟨rfl, ⟨false, by simp [isi_tab]⟩, rfl⟩, .bad (.no (.lst _ _)) back1,
      arg_int (by omega), arg_int (by omega), arg_int (by omega), .bad (.no (.tup _)) back2, fun _ h => (nomatch h)⟩
  have aNL : ∀ t ∈ NL, Arg g t := by
    rw [hNL]
    simp only [List.forall_mem_cons]
    refine ⟨arg_int (by omega), arg_int (by omega), arg_int (by omega), arg_int (by omega), arg_int (by omega), arg_int (by omega), arg_int (by omega), arg_int (by omega), arg_int (by omega), arg_int (by omega), arg_int (by omega), arg_int (by omega), arg_int (by omega), arg_int (by omega), arg_int (by omega), arg_int (by omega), arg_int (by omega), arg_int (by omega), arg_int (by omega), fun _ h => (nomatch h)⟩
  have lBL : BL.length = 19 := by rw [hBL]; rfl
  have lNL : NL.length = 19 := by rw [hNL]; rfl
  have atB : ∀ k : Nat, k < 19 → ∃ t, Arg g t ∧ atI BL (k : Int) = some t := fun k hk => ⟨BL[k]'(by omega), aBL _ (List.getElem_mem _), by rw [Py.atI_nat (by omega)]; exact List.getElem?_eq_getElem _⟩
  have atN : ∀ k : Nat, k < 19 → ∃ t, Arg g t ∧ atI NL (k : Int) = some t := fun k hk => ⟨NL[k]'(by omega), aNL _ (List.getElem_mem _), by rw [Py.atI_nat (by omega)]; exact List.getElem?_eq_getElem _⟩
  obtain ⟨k3, rfl⟩ := Int.eq_ofNat_of_zero_le b3.1
  obtain ⟨k4, rfl⟩ := Int.eq_ofNat_of_zero_le b4.1
  obtain ⟨tB3, aB3, eB3⟩ := atB k3 (by omega)
  obtain ⟨tN4, aN4, eN4⟩ := atN k4 (by omega)
  have gb : Arg g (.int (good + bey)) := arg_int (by omega)
  have gg : Arg g (.int good) := arg_int (by omega)
  have hC := turns_fold (tg := S.tName 6) (body := (S.for_ (S.tName 9) (P.items (P.lst (P.cons (P.lst (P.cons (P.bin T.ix (P.var 1 12) (P.var 1 6)) (P.cons (P.var 1 10) P.nil))) (P.cons (P.lst (P.cons (P.bin T.add (P.var 1 10) (P.var 1 11)) (P.cons (P.bin T.ix (P.var 1 12) (P.var 1 6)) P.nil))) (P.cons (P.lst (P.cons (P.bin T.ix (P.var 1 12) (P.var 1 6)) (P.cons (P.bin T.ix (P.var 1 12) (P.bin T.ix (P.var 1 1) (P.c (.int 3)))) P.nil))) (P.cons (P.lst (P.cons (P.bin T.ix (P.var 1 13) (P.var 1 6)) (P.cons (P.var 1 10) P.nil))) (P.cons (P.lst (P.cons (P.bin T.add (P.var 1 10) (P.var 1 11)) (P.cons (P.bin T.ix (P.var 1 13) (P.var 1 6)) P.nil))) (P.cons (P.lst (P.cons (P.bin T.ix (P.var 1 13) (P.var 1 6)) (P.cons (P.bin T.ix (P.var 1 13) (P.bin T.ix (P.var 1 1) (P.c (.int 4)))) P.nil))) P.nil))))))))
  (S.ite (P.not (P.tb (P.call (f__law_right (1 + 1)) (P.cons (P.var 1 2) (P.cons (P.bin T.ix (P.var 1 9) (P.c (.int 0))) (P.cons (P.bin T.ix (P.var 1 9) (P.c (.int 1))) P.nil))))))
  (S.ret (P.c (.bl false)))
  S.skip))) (g := nT) (step := fun (_ : Unit) (_ : Nat) => ()) (R := fun _ e => ∃ o6 o9, e = [some (.fz (.ro (ns.map T.int))), some (.fz (.lst none [.int h0, .int h1, .int h2, .int (k3 : Int), .int (k4 : Int), .int h5])), some (.fz (.int (g : Int))), some (.fz (.int (count : Int))), some (.fz (.int full)), some (.fz (.lst none (ps.map pT))), o6, o7, o8, o9, some (.fz (.int good)), some (.fz (.int bey)), some (.fz (.lst none BL)), some (.fz (.lst none NL))]) (List.range 19) ()
    [some (.fz (.ro (ns.map T.int))), some (.fz (.lst none [.int h0, .int h1, .int h2, .int (k3 : Int), .int (k4 : Int), .int h5])), some (.fz (.int (g : Int))), some (.fz (.int (count : Int))), some (.fz (.int full)), some (.fz (.lst none (ps.map pT))), o6, o7, o8, o9, some (.fz (.int good)), some (.fz (.int bey)), some (.fz (.lst none BL)), some (.fz (.lst none NL))] (by
      rintro - k e hk ⟨p6, p9, rfl⟩
      have hk' := List.mem_range.mp hk
      obtain ⟨tb, ab, eb⟩ := atB k hk'
      obtain ⟨tn, an, en⟩ := atN k hk'
      obtain ⟨o', wC⟩ := checks (g := g) (by omega) [(tb, .int good), (.int (good + bey), tb), (tb, tB3), (tn, .int good), (.int (good + bey), tn), (tn, tN4)] (by
        simp only [List.forall_mem_cons]
        exact ⟨⟨ab, gg⟩, ⟨gb, ab⟩, ⟨ab, aB3⟩, ⟨an, gg⟩, ⟨gb, an⟩, ⟨an, aN4⟩, fun _ h => (nomatch h)⟩) (t0 := some (.fz (.ro (ns.map T.int)))) (t1 := some (.fz (.lst none [.int h0, .int h1, .int h2, .int (k3 : Int), .int (k4 : Int), .int h5]))) (t3 := some (.fz (.int (count : Int)))) (t4 := some (.fz (.int full))) (t5 := some (.fz (.lst none (ps.map pT)))) (t6 := some (.fz (nT k))) (t7 := o7) (t8 := o8) (t10 := some (.fz (.int good))) (t11 := some (.fz (.int bey))) (t12 := some (.fz (.lst none BL))) (t13 := some (.fz (.lst none NL))) p9
      have wC' : S.turns (S.tName 9) ((S.ite (P.not (P.tb (P.call (f__law_right (1 + 1)) (P.cons (P.var 1 2) (P.cons (P.bin T.ix (P.var 1 9) (P.c (.int 0))) (P.cons (P.bin T.ix (P.var 1 9) (P.c (.int 1))) P.nil))))))
  (S.ret (P.c (.bl false)))
  S.skip)) [.lst none [tb, .int good], .lst none [.int (good + bey), tb], .lst none [tb, tB3], .lst none [tn, .int good], .lst none [.int (good + bey), tn], .lst none [tn, tN4]] [some (.fz (.ro (ns.map T.int))), some (.fz (.lst none [.int h0, .int h1, .int h2, .int (k3 : Int), .int (k4 : Int), .int h5])), some (.fz (.int (g : Int))), some (.fz (.int (count : Int))), some (.fz (.int full)), some (.fz (.lst none (ps.map pT))), some (.fz (nT k)), o7, o8, p9, some (.fz (.int good)), some (.fz (.int bey)), some (.fz (.lst none BL)), some (.fz (.lst none NL))] = .nx [some (.fz (.ro (ns.map T.int))), some (.fz (.lst none [.int h0, .int h1, .int h2, .int (k3 : Int), .int (k4 : Int), .int h5])), some (.fz (.int (g : Int))), some (.fz (.int (count : Int))), some (.fz (.int full)), some (.fz (.lst none (ps.map pT))), some (.fz (nT k)), o7, o8, o', some (.fz (.int good)), some (.fz (.int bey)), some (.fz (.lst none BL)), some (.fz (.lst none NL))] := wC
      refine ⟨_, _, rfl, .inl ?_, some (.fz (nT k)), o', rfl⟩
      simp [eb, en, eB3, eN4, g3, g4, lfit_ok, wC']) ⟨o6, o9, rfl⟩
  obtain ⟨eC, wD, p6, p9, rfl⟩ := hC
  have hq0 : 0 < ps.length := by rw [w2]; simp
  have aq0 : atI (ps.map pT) 0 = some (pT ps[0]) := by
    have := Py.atI_nat (xs := ps.map pT) (k := 0) (by simpa using hq0)
    rw [show ((0 : Nat) : Int) = 0 from rfl] at this
    rw [this, List.getElem?_map, List.getElem?_eq_getElem hq0]
    rfl
  obtain ⟨wq1, wq2⟩ := w1 _ (List.getElem_mem hq0)
  have hr := right_ok (d := 1 + 1) (g := g) (by omega) (arg_int wq1) (arg_int wq2)
  generalize ps[0] = q0 at *
  rw [hBL, hNL] at wD
  simp [-Int.sub_add_cancel, f_law, run_eq, ent_eq, S_law, hc0', hdig, lfit_ok, g0, g1, g2, g3, g4, g5, hgm, hcn, hs', hr6, e6, flat_nats, hfe.symm, wA, wB, Py.mod_int dm, egood, Py.mod_int, es', hsb, hr19, e19, wD, aq0, pT, at0, at1, hr]
end Lw

theorem PySem.Challenge.cw_fullsides_k31_uncrossed_holds : PySem.Challenge.rw_fullsides_k31_uncrossed.Holds := by
  exact lw_holds fun ns h => Lw.ev_law ns
