import PyProof.Rows.All
import Wide.All
import OpenK.AllK
import Wide.FinOn
import HandS.ForMost
import HandS.ForExc
import HandS.ExcInit
import HandS.ExcField
import HandS.Wide
import HandS.WideMore
import HandS.WideBits
import HandS.IsInst
import HandS.Evl
import HandS.Defaults
import HandS.Head0
import HandS.Head1
import HandS.Head2
import HandS.HeadEnd
import HandS.HeadHook1
import HandS.HeadHook2
import HandS.ExcIs
import HandS.TryOnly
import KE.KExcIs
import PyProof.MaxThree
import HandS.EndBits
import HandS.Style
import HandS.SortInts
import HandS.Rev
import PyProof.ExcBaseAll.ValueError
import HandS.Deep
import HandS.OwnEq
import HandS.TupMul
import HandS.TupAny
import HandS.Dict
import HandS.Conv
import HandS.SortRule
import HandS.DictComp
import HandS.TryMany
import HandS.Iter
import HandS.GenList
import OpenK.KOps
import HandS.NoneIn
import HandS.HotCalls
import PyProof.WalksMore
import PyProof.Rows.TupIter
import HandS.Gcd
import KE.KMathGC
import HandS.RevTup
import HandS.CallSlots
import HandS.Head3
import PyProof.Rows.StrMul
import KE.SortData
import HandS.SetFor
import HandS.Strs
import HandS.GenBody
import HandS.GenYield
import HandS.GenCall
import HandS.Codes
import PySem.Challenge.RW_fullsides_k18_sides
set_option Elab.async false
set_option linter.all false
set_option maxRecDepth 100000
set_option maxHeartbeats 4000000
/-! Pure trees for what the program holds; what a reading of the hand layer gives, told over such trees. -/
namespace Py
open PySem L2 PySem.Spec PyProof.Rows Evl

/-! ### trees -/
/-- who owns a changeable thing: the depth of a call, the slot of its frame -/
abbrev Tag := Nat × Nat
inductive T where
  | non
  | bl (b : Bool)
  | int (i : Int)
  | str (s : Str)
  | lst (g : Option Tag) (ts : List T)
  | tup (ts : List T)
  | ro (ts : List T)
  | ins (g : Option Tag) (c : Nat) (ns : List Str) (ts : List T)
  | dct (g : Option Tag) (ks : List (List L2.Key)) (ts : List T)
  | exn (c : Nat) (ns : List Str) (ts : List T)
  deriving Inhabited
structure Exn where
  c : Nat
  ns : List Str
  ts : List T
inductive Res (α : Type) where
  | ok (a : α)
  | er (e : Exn)
  | stuck
theorem nrfl {α : Sort u} {a b : α} (h : a = b) : a = b := h
def Res.bind {α β : Type} (r : Res α) (f : α → Res β) : Res β := match r with
  | .ok a => f a
  | .er e => .er e
  | .stuck => .stuck
def Res.of {α : Type} : Option α → Res α
  | some a => .ok a
  | none => .stuck
@[simp] theorem Res.bind_ok {α β : Type} (a : α) (f : α → Res β) : Res.bind (.ok a) f = f a := nrfl rfl
@[simp] theorem Res.bind_er {α β : Type} (e : Exn) (f : α → Res β) : Res.bind (.er e) f = .er e := nrfl rfl
@[simp] theorem Res.bind_stuck {α β : Type} (f : α → Res β) : Res.bind (.stuck) f = .stuck := nrfl rfl
@[simp] theorem Res.of_some {α : Type} (a : α) : Res.of (some a) = .ok a := nrfl rfl

theorem ex_s {K : PySem.W.Frag} {F H : Hp} {a : Addr} {vs : List V} (e : Ex F H) (h : F a = some (.tup vs)) : SqT K H a vs := SqT.of (e _ _ h)
/-! ### what stands for a tree -/
abbrev Al := Tag → Option Addr
/-- the classes' addresses; the exception that a suite holds: where it stands, its class, its dict -/
structure Cl where
  f : Nat → Addr
  xh : Option (Addr × Value × Option Addr) := none
  pin : Option (Nat × Addr) := none
structure Ge where
  K : PySem.W.Frag
  c : Cl
def Ge.cl (G : Ge) (n : Nat) : Addr := G.c.f n
def tagOk (A : Al) (g : Option Tag) (a : Addr) : Prop := match g with
  | none => ∀ g, A g ≠ some a
  | some g => A g = some a
mutual
def rep (G : Ge) (A : Al) (F : Hp) : T → V → Prop
  | .non, v => v = .non
  | .bl b, v => v = .bl b
  | .int i, v => v = .int i
  | .str s, v => v = .str s
  | .lst g ts, v => ∃ a vs, v = .ref a ∧ F a = some (.lst vs) ∧ tagOk A g a ∧ reps G A F ts vs
  | .tup ts, v => ∃ a vs, v = .ref a ∧ F a = some (.tup vs) ∧ reps G A F ts vs
  | .ro ts, v => ∃ a vs, v = .ref a ∧ SqL G.K F a vs ∧ reps G A F ts vs
  | .ins g c ns ts, v => ∃ a dx vs, v = .ref a ∧ F a = some (.ins (G.cl c) dx (ns.zip vs)) ∧ vs.length = ns.length ∧ tagOk A g a ∧ reps G A F ts vs
  | .dct g ks ts, v => ∃ a vs, v = .ref a ∧ Rd F a (.dT (ks.zip vs)) ∧ vs.length = ks.length ∧ tagOk A g a ∧ reps G A F ts vs
  | .exn c ns ts, v => ∃ a cls dx, G.c.xh = some (a, cls, dx) ∧ v = .ref a ∧ cls = .ref (G.cl c) ∧ ((ns = [] ∧ ts = [] ∧ dx = none) ∨ ∃ dd vs, dx = some dd ∧ F dd = some (.xd (ns.zip vs)) ∧ vs.length = ns.length ∧ reps G A F ts vs)
def reps (G : Ge) (A : Al) (F : Hp) : List T → List V → Prop
  | [], vs => vs = []
  | t :: ts, vs => ∃ v ws, vs = v :: ws ∧ rep G A F t v ∧ reps G A F ts ws
end
theorem rd_ex {F F' : Hp} {a : Addr} {u : HO} (e : Ex F F') (h : Rd F a u) : Rd F' a u := h.elim (fun z => .inl (e _ _ z)) fun ⟨o, z⟩ => .inr ⟨o, e _ _ z⟩
theorem rd_some {F : Hp} {a : Addr} {u : HO} (h : Rd F a u) : ∃ o, F a = some o := h.elim (fun z => ⟨_, z⟩) fun ⟨o, z⟩ => ⟨_, z⟩
section
variable {G : Ge} {A : Al} {F F' H H' : Hp}
mutual
theorem rep.mono (e : Ex F F') : ∀ {t : T} {v : V}, rep G A F t v → rep G A F' t v
  | .non, _, h => h
  | .bl _, _, h => h
  | .int _, _, h => h
  | .str _, _, h => h
  | .lst _ _, _, ⟨a, vs, h1, h2, h3, h4⟩ => ⟨a, vs, h1, e _ _ h2, h3, reps.mono e h4⟩
  | .tup _, _, ⟨a, vs, h1, h2, h3⟩ => ⟨a, vs, h1, e _ _ h2, reps.mono e h3⟩
  | .ro _, _, ⟨a, vs, h1, h2, h3⟩ => ⟨a, vs, h1, ex_l e h2, reps.mono e h3⟩
  | .ins _ _ _ _, _, ⟨a, dx, vs, h1, h2, h3, h4, h5⟩ => ⟨a, dx, vs, h1, e _ _ h2, h3, h4, reps.mono e h5⟩
  | .dct _ _ _, _, ⟨a, vs, h1, h2, h3, h4, h5⟩ => ⟨a, vs, h1, rd_ex e h2, h3, h4, reps.mono e h5⟩
  | .exn _ _ _, _, ⟨a, cls, dx, h1, h2, h3, h4⟩ => ⟨a, cls, dx, h1, h2, h3, match h4 with
    | .inl z => .inl z
    | .inr ⟨dd, vs, k1, k2, k3, k4⟩ => .inr ⟨dd, vs, k1, e _ _ k2, k3, reps.mono e k4⟩⟩
theorem reps.mono (e : Ex F F') : ∀ {ts : List T} {vs : List V}, reps G A F ts vs → reps G A F' ts vs
  | [], _, h => h
  | _ :: _, _, ⟨v, ws, h1, h2, h3⟩ => ⟨v, ws, h1, rep.mono e h2, reps.mono e h3⟩
end
theorem reps.length : ∀ {ts : List T} {vs : List V}, reps G A F ts vs → vs.length = ts.length
  | [], vs, h => by
    have e : vs = [] := h
    rw [e] <;> rfl
  | _ :: _, _, ⟨v, ws, h1, h2, h3⟩ => by rw [h1, List.length_cons, List.length_cons, reps.length h3]
theorem reps.get : ∀ {ts : List T} {vs : List V} {i : Nat} {t : T}, reps G A F ts vs → ts[i]? = some t → ∃ v, vs[i]? = some v ∧ rep G A F t v
  | t :: ts, _, 0, u, ⟨v, ws, h1, h2, h3⟩, e => by
    rw [h1]
    have e' : t = u := Option.some.inj e
    subst e'
    exact ⟨v, rfl, h2⟩
  | t :: ts, _, i + 1, u, ⟨v, ws, h1, h2, h3⟩, e => by
    rw [h1]
    exact reps.get (i := i) h3 e
theorem reps.getV : ∀ {ts : List T} {vs : List V} {i : Nat} {v : V}, reps G A F ts vs → vs[i]? = some v → ∃ t, ts[i]? = some t ∧ rep G A F t v := fun {ts vs i v} h e => by
  have hi : i < ts.length := by
    rw [← h.length]
    exact (List.getElem?_eq_some_iff.mp e).1
  obtain ⟨v', e', r⟩ := h.get (List.getElem?_eq_getElem hi)
  rw [e] at e'
  cases e'
  exact ⟨_, List.getElem?_eq_getElem hi, r⟩
theorem reps.append : ∀ {ts us : List T} {vs ws : List V}, reps G A F ts vs → reps G A F us ws → reps G A F (ts ++ us) (vs ++ ws)
  | [], _, _, _, h, k => by rw [show _ = [] from h]; exact k
  | _ :: _, _, _, _, ⟨v, ws, h1, h2, h3⟩, k => by rw [h1]; exact ⟨v, _, rfl, h2, h3.append k⟩
theorem reps.one {t : T} {v : V} (h : rep G A F t v) : reps G A F [t] [v] := ⟨v, [], rfl, h, rfl⟩
theorem reps.set : ∀ {ts : List T} {vs : List V} (i : Nat) {t : T} {v : V}, reps G A F ts vs → rep G A F t v → reps G A F (ts.set i t) (vs.set i v)
  | [], _, _, _, _, h, _ => by rw [show _ = [] from h]; rfl
  | _ :: _, _, 0, _, _, ⟨v, ws, h1, h2, h3⟩, r => by rw [h1]; exact ⟨_, _, rfl, r, h3⟩
  | _ :: _, _, i + 1, _, _, ⟨v, ws, h1, h2, h3⟩, r => by rw [h1]; exact ⟨_, _, rfl, h2, reps.set i h3 r⟩
theorem reps.take : ∀ {ts : List T} {vs : List V} (n : Nat), reps G A F ts vs → reps G A F (ts.take n) (vs.take n)
  | _, _, 0, _ => rfl
  | [], _, n + 1, h => by rw [show _ = [] from h]; rfl
  | _ :: _, _, n + 1, ⟨v, ws, h1, h2, h3⟩ => by rw [h1]; exact ⟨_, _, rfl, h2, reps.take n h3⟩
theorem reps.drop : ∀ {ts : List T} {vs : List V} (n : Nat), reps G A F ts vs → reps G A F (ts.drop n) (vs.drop n)
  | _, _, 0, h => h
  | [], _, n + 1, h => by rw [show _ = [] from h]; rfl
  | _ :: _, _, n + 1, ⟨v, ws, h1, h2, h3⟩ => by rw [h1]; exact reps.drop n h3
theorem reps.reverse : ∀ {ts : List T} {vs : List V}, reps G A F ts vs → reps G A F ts.reverse vs.reverse
  | [], _, h => by rw [show _ = [] from h]; rfl
  | _ :: _, _, ⟨v, ws, h1, h2, h3⟩ => by
    rw [h1, List.reverse_cons, List.reverse_cons]
    exact (reps.reverse h3).append (reps.one h2)
theorem reps.of_get : ∀ {ts : List T} {vs : List V}, vs.length = ts.length → (∀ (i : Nat) (t : T) (v : V), ts[i]? = some t → vs[i]? = some v → rep G A F t v) → reps G A F ts vs
  | [], [], _, _ => rfl
  | [], _ :: _, h, _ => by simp at h
  | _ :: _, [], h, _ => by simp at h
  | t :: ts, v :: vs, h, k => ⟨v, vs, rfl, k 0 t v rfl rfl, reps.of_get (by simpa using h) fun i t v a b => k (i + 1) t v a b⟩

/-! ### heaps that grow: F the part that stays as it is, H all -/
/-- what may change: it is there, and no tuple -/
def Mtb (o : Option HO) : Prop := ∃ u, o = some u ∧ ∀ xs, u ≠ .tup xs
theorem Mtb.ne {o : Option HO} (h : Mtb o) : o ≠ none := fun z => let ⟨_, e, _⟩ := h; nomatch e.symm.trans z
theorem Mtb.keep {H H1 : Hp} {a : Addr} (e : Ex H H1) (h : Mtb (H a)) : Mtb (H1 a) := let ⟨u, h1, h2⟩ := h; ⟨u, e _ _ h1, h2⟩
structure Grow (F H F1 H1 : Hp) : Prop where
  ex : Ex F F1
  sub : Ex F1 H1
  keep : Ex H H1
  sep : ∀ a, F a = none → Mtb (H a) → F1 a = none
theorem Grow.refl (e : Ex F H) : Grow F H F H := ⟨Ex.refl _, e, Ex.refl _, fun _ h _ => h⟩
theorem none_of_ex {F H : Hp} (e : Ex F H) {a : Addr} (h : H a = none) : F a = none := fresh_back e h
theorem Grow.trans {F1 H1 F2 H2 : Hp} (a : Grow F H F1 H1) (b : Grow F1 H1 F2 H2) : Grow F H F2 H2 :=
  ⟨a.ex.trans b.ex, b.sub, a.keep.trans b.keep, fun x h1 h2 => b.sep x (a.sep x h1 h2) (h2.keep a.keep)⟩
theorem ex_upd {p : Addr} {o : HO} (e : Ex F H) : Ex (upd F p o) (upd H p o) := fun a u h => by
  by_cases hp : a = p
  · subst hp
    rw [upd_same] at h ⊢
    exact h
  · rw [upd_ne hp] at h ⊢
    exact e a u h
theorem Grow.new {p : Addr} {o : HO} (e : Ex F H) (h : H p = none) : Grow F H (upd F p o) (upd H p o) :=
  ⟨Ex.new (none_of_ex e h), ex_upd e, Ex.new h, fun a h1 h2 => by
    rw [upd_ne (fun z => h2.ne (by rw [z]; exact h))]
    exact h1⟩
/-- garbage: only H grows -/
theorem Grow.junk {p : Addr} {o : HO} (e : Ex F H) (h : H p = none) : Grow F H F (upd H p o) := ⟨Ex.refl _, e.trans (Ex.new h), Ex.new h, fun _ h1 _ => h1⟩

/-! ### frames -/
inductive Sl where
  | fz (t : T)
  | ol (ts : List T)
  | oi (c : Nat) (ns : List Str) (ts : List T)
  | od (ks : List (List L2.Key)) (ts : List T)
abbrev Fv := List (Option Sl)
def rd (d i : Nat) (env : Fv) : Option T := match env[i]? with
  | some (some (.fz t)) => some t
  | some (some (.ol ts)) => some (.lst (some (d, i)) ts)
  | some (some (.oi c ns ts)) => some (.ins (some (d, i)) c ns ts)
  | some (some (.od ks ts)) => some (.dct (some (d, i)) ks ts)
  | _ => none
structure AOk (A : Al) (F : Hp) : Prop where
  inj : ∀ g g' a, A g = some a → A g' = some a → g = g'
  al : ∀ g a, A g = some a → F a ≠ none
theorem AOk.mono (h : AOk A F) (e : Ex F F') : AOk A F' := ⟨h.inj, fun g a q => by
  cases z : F a with
  | none => exact absurd z (h.al g a q)
  | some o => rw [e _ _ z]; exact fun y => nomatch y⟩
theorem AOk.new (h : AOk A F) {p : Addr} (hp : F p = none) : tagOk A none p := fun g q => h.al g p q hp
/-- what an expression sees -/
structure RE (G : Ge) (d : Nat) (A : Al) (env : Fv) (σ : L2.St) (F : Hp) : Prop where
  ok : AOk A F
  len : env.length = σ.length
  dep : ∀ g a, A g = some a → g.1 ≤ d
  slots : ∀ i t, rd d i env = some t → ∃ v, σ[i]? = some (some v) ∧ rep G A F t v
theorem RE.mono {d : Nat} {env : Fv} {σ : L2.St} (h : RE G d A env σ F) (e : Ex F F') : RE G d A env σ F' :=
  ⟨h.ok.mono e, h.len, h.dep, fun i t q => let ⟨v, a, b⟩ := h.slots i t q; ⟨v, a, b.mono e⟩⟩
/-- an exception: its class, its own dict -/
def xrep (G : Ge) (A : Al) (F : Hp) (e : Exn) (dx : Option Addr) : Prop :=
  (e.ns = [] ∧ e.ts = [] ∧ dx = none) ∨ ∃ d vs, dx = some d ∧ F d = some (.xd (e.ns.zip vs)) ∧ vs.length = e.ns.length ∧ reps G A F e.ts vs
theorem xrep.mono {e : Exn} {dx : Option Addr} (q : Ex F F') (h : xrep G A F e dx) : xrep G A F' e dx := by
  rcases h with h | ⟨d, vs, h1, h2, h3, h4⟩
  · exact .inl h
  · exact .inr ⟨d, vs, h1, q _ _ h2, h3, h4.mono q⟩
end

/-! ### what a reading gives -/
/-- E: what is wished of an exception -/
def Outg {α β : Type} (G : Ge) (A : Al) (F H : Hp) (R : Hp → α → β → Prop) (Q : β → Hp → Prop) (E : XK) : Res α → Prop
  | .ok r => ∀ b F1 H1, Grow F H F1 H1 → R F1 r b → Q b H1
  | .er e => ∀ dx F1 H1, Grow F H F1 H1 → xrep G A F1 e dx → E (.ref (G.cl e.c)) dx H1
  | .stuck => False
abbrev Out (G : Ge) (A : Al) (F H : Hp) (Q : VK) (E : XK) : Res T → Prop := Outg G A F H (rep G A) Q E
abbrev OutB (G : Ge) (A : Al) (F H : Hp) (Q : Bool → Hp → Prop) (E : XK) : Res Bool → Prop := Outg G A F H (fun _ (b c : Bool) => b = c) Q E
abbrev OutA (G : Ge) (A : Al) (F H : Hp) (Q : List V → Hp → Prop) (E : XK) : Res (List T) → Prop := Outg G A F H (reps G A) Q E
section
variable {G : Ge} {d : Nat} {W : WX} {A : Al} {F H F1 H1 : Hp} {Q : VK} {E : XK} {t : T}
theorem Out.here {v : V} (h : Out G A F H Q E (.ok t)) (e : Ex F H) (r : rep G A F t v) : Q v H := h v F H (Grow.refl e) r
theorem OutB.here {b : Bool} {Q : Bool → Hp → Prop} (h : OutB G A F H Q E (.ok b)) (e : Ex F H) : Q b H := h b F H (Grow.refl e) rfl
theorem OutA.here {ts : List T} {vs : List V} {Q : List V → Hp → Prop} (h : OutA G A F H Q E (.ok ts)) (e : Ex F H) (r : reps G A F ts vs) : Q vs H := h vs F H (Grow.refl e) r
/-- a step first -/
theorem Outg.step {α β : Type} {R : Hp → α → β → Prop} {Q : β → Hp → Prop} {m : Res α} (g : Grow F H F1 H1) (h : Outg G A F H R Q E m) : Outg G A F1 H1 R Q E m := by
  cases m with
  | ok r => exact fun v F2 H2 g2 r2 => h v F2 H2 (g.trans g2) r2
  | er e => exact fun dx F2 H2 g2 r2 => h dx F2 H2 (g.trans g2) r2
  | stuck => exact h
/-- one thing, then the rest -/
theorem Outg.bind {α β α' β' : Type} {R : Hp → α → β → Prop} {R' : Hp → α' → β' → Prop} {Q : β → Hp → Prop} {Q' : β' → Hp → Prop} {m : Res α} {k : α → Res α'} (o : Outg G A F H R' Q' E (m.bind k))
    (h : ∀ x b F1 H1, Grow F H F1 H1 → R F1 x b → Outg G A F1 H1 R' Q' E (k x) → Q b H1) : Outg G A F H R Q E m := by
  cases m with
  | ok x => exact fun b F1 H1 g r => h x b F1 H1 g r (Outg.step g o)
  | er e => exact o
  | stuck => exact o
def SE (G : Ge) (d : Nat) (W : WX) (te : TE) (p : Fv → Res T) : Prop :=
  ∀ A env σ F H Q, RE G d A env σ F → Ex F H → Out G A F H Q (WE W σ) (p env) → te σ H Q
def ST (G : Ge) (d : Nat) (W : WX) (tt : TT) (p : Fv → Res Bool) : Prop :=
  ∀ A env σ F H Q, RE G d A env σ F → Ex F H → OutB G A F H Q (WE W σ) (p env) → tt σ H Q
def SA (G : Ge) (d : Nat) (W : WX) (ta : TA) (p : Fv → Res (List T)) : Prop :=
  ∀ A env σ F H Q, RE G d A env σ F → Ex F H → OutA G A F H Q (WE W σ) (p env) → ta σ H Q
end
end Py

set_option Elab.async false
set_option linter.all false
set_option maxRecDepth 100000
set_option maxHeartbeats 4000000
namespace Py
open PySem L2 PySem.Spec PyProof.Rows Evl

/-! ### operations on trees -/
def mfit (i j : Int) : Bool := decide (i.natAbs.log2 + j.natAbs.log2 < 1000000)
theorem mfit_of {i j : Int} (a b : Nat) (ha : i.natAbs < 2 ^ a) (hb : j.natAbs < 2 ^ b) (h0 : 0 < a := by decide) (h1 : 0 < b := by decide) (h : a + b ≤ 1000000 := by decide) : mfit i j = true := decide_eq_true (wide_mul ha hb h0 h1 h)
def dfit (j : Int) : Bool := decide (j.natAbs.log2 < 9000)
theorem dfit_of {j : Int} (b : Nat) (hb : j.natAbs < 2 ^ b) (h0 : 0 < b := by decide) (h : b ≤ 9000 := by decide) : dfit j = true := decide_eq_true (Nat.lt_of_lt_of_le (PySem.Flt.log2_lt_of h0 hb) h)
def sfit (i : Int) : Bool := decide (i.natAbs < 2 ^ 64)
def lfit (n : Nat) : Bool := decide (n ≤ sizeLine)
theorem lfit_of {n : Nat} (h : n ≤ 10000000) : lfit n = true := decide_eq_true (Nat.le_trans h (by decide))
namespace T
def add : T → T → Option T
  | .int i, .int j => some (.int (i + j))
  | .str x, .str y => if lfit (x.length + y.length) = true then some (.str (x ++ y)) else none
  | .lst _ xs, .lst _ ys => if lfit (xs.length + ys.length) = true then some (.lst none (xs ++ ys)) else none
  | .tup (x :: xs), .tup ys => if lfit (xs.length + 1 + ys.length) = true then some (.tup (x :: xs ++ ys)) else none
  | _, _ => none
def sub : T → T → Option T
  | .int i, .int j => some (.int (i - j))
  | _, _ => none
def mul : T → T → Option T
  | .int i, .int j => if mfit i j = true then some (.int (i * j)) else none
  | .lst _ xs, .int k => if decide (-(2 ^ 63) ≤ k) && decide (k < 2 ^ 63) && lfit (xs.length * k.toNat) then some (.lst none (List.replicate k.toNat xs).flatten) else none
  | _, _ => none
def fdiv : T → T → Option T
  | .int i, .int j => if decide (0 < j) && dfit j then some (.int (i / j)) else none
  | _, _ => none
def mod : T → T → Option T
  | .int i, .int j => if decide (0 < j) then some (.int (i % j)) else none
  | _, _ => none
def pow : T → T → Option T
  | .int i, .int j => if decide (0 ≤ j) && decide (j ≤ 1000000) && sfit i then some (.int (i ^ j.toNat)) else none
  | _, _ => none
def shl : T → T → Option T
  | .int i, .int j => if decide (0 ≤ j) && decide (j ≤ 1000000) && sfit i then some (.int (i * 2 ^ j.toNat)) else none
  | _, _ => none
def shr : T → T → Option T
  | .int i, .int j => if decide (0 ≤ j) then some (.int (i / 2 ^ j.toNat)) else none
  | _, _ => none
def band : T → T → Option T
  | .int i, .int j => some (.int (Builtin.bitAnd i j))
  | _, _ => none
def bor : T → T → Option T
  | .int i, .int j => some (.int (Builtin.bitOr i j))
  | _, _ => none
def bxor : T → T → Option T
  | .int i, .int j => some (.int (Builtin.bitXor i j))
  | _, _ => none
def neg : T → Option T
  | .int i => some (.int (-i))
  | _ => none
def inv : T → Option T
  | .int i => some (.int (Builtin.bitNot i))
  | _ => none
/-! trees as data -/
mutual
def pd : T → Option PyData
  | .non => some .none
  | .bl b => some (.bool b)
  | .int i => some (.int i)
  | .str s => some (.str s)
  | .lst _ ts => (pds ts).map .list
  | .ro ts => (pds ts).map .list
  | .tup ts => (pds ts).map .tuple
  | .ins _ _ _ _ => none
  | .dct _ _ _ => none
  | .exn _ _ _ => none
def pds : List T → Option (List PyData)
  | [] => some []
  | t :: ts => match pd t, pds ts with
    | some d, some ds => some (d :: ds)
    | _, _ => none
end
def eq (x y : T) : Option T := match pd x, pd y with
  | some d, some e => if SeqAt.shaped d && SeqAt.shaped e then some (.bl (PyData.eqv d e)) else none
  | _, _ => none
def ne (x y : T) : Option T := match pd x, pd y with
  | some d, some e => if SeqAt.shaped d && SeqAt.shaped e then some (.bl (!PyData.eqv d e)) else none
  | _, _ => none
def lt : T → T → Option T
  | .int i, .int j => some (.bl (decide (i < j)))
  | .str x, .str y => some (.bl (decide (x.cps.toList < y.cps.toList)))
  | _, _ => none
def le : T → T → Option T
  | .int i, .int j => some (.bl (decide (i ≤ j)))
  | _, _ => none
def gt : T → T → Option T
  | .int i, .int j => some (.bl (decide (j < i)))
  | _, _ => none
def ge : T → T → Option T
  | .int i, .int j => some (.bl (decide (j ≤ i)))
  | _, _ => none
def nn : T → Bool
  | .non => true
  | _ => false
def isN (x y : T) : Option T := match y with
  | .non => some (.bl (nn x))
  | _ => none
def notN (x y : T) : Option T := match y with
  | .non => some (.bl (!nn x))
  | _ => none
def items : T → Option (List T)
  | .lst _ ts => some ts
  | .ro ts => some ts
  | .tup ts => some ts
  | _ => none
def fv : T → Option V
  | .non => some .non
  | .bl b => some (.bl b)
  | .int i => some (.int i)
  | .str s => some (.str s)
  | _ => none
def fvs : List T → Option (List V)
  | [] => some []
  | t :: ts => match fv t, fvs ts with
    | some v, some vs => some (v :: vs)
    | _, _ => none
def isIn (neg : Bool) (x y : T) : Option T := match fv x, items y with
  | some v, some ts => (match fvs ts with
    | some vs => some (.bl (if neg then !inV v vs else inV v vs))
    | none => none)
  | _, _ => none
def ix : T → T → Option T
  | .lst _ ts, .int i => atI ts i
  | .ro ts, .int i => atI ts i
  | .tup ts, .int i => atI ts i
  | .str z, .int i => if lfit z.length = true then (atI z.cps.toList i).map fun c => .str ⟨#[c]⟩ else none
  | _, _ => none
def tru : T → Option Bool
  | .non => some false
  | .bl b => some b
  | .int i => some (i != 0)
  | .str y => if lfit y.length = true then some ((y.length : Int) != 0) else none
  | .lst _ ts => some (!ts.isEmpty)
  | .ro ts => some (!ts.isEmpty)
  | .tup ts => some (!ts.isEmpty)
  | .ins _ _ _ _ => none
  | .dct _ _ _ => none
  | .exn _ _ _ => none
def boo : T → Option Bool
  | .bl b => some b
  | _ => none
end T

/-! ### operators -/
section
variable {G : Ge} {A : Al} {F H F1 H1 : Hp} {Q : VK} {E : XK} {x y t : T} {v w : V} {i j : Int}
def OpS (G : Ge) (r : R2) (f : T → T → Option T) : Prop :=
  ∀ A F H Q E x y v w, AOk A F → Ex F H → rep G A F x v → rep G A F y w → Out G A F H Q E (.of (f x y)) → r v w H Q
def UnS (G : Ge) (r : V → Hp → VK → Prop) (f : T → Option T) : Prop :=
  ∀ A F H Q E x v, AOk A F → Ex F H → rep G A F x v → Out G A F H Q E (.of (f x)) → r v H Q
theorem Out.lst {ts : List T} {vs : List V} (h : Out G A F H Q E (.ok (.lst none ts))) (ok : AOk A F) (e : Ex F H) (r : reps G A F ts vs) : ∀ p, H p = none → Q (.ref p) (upd H p (.lst vs)) := fun p hp =>
  have hf := none_of_ex e hp
  h _ _ _ (Grow.new e hp) ⟨p, vs, rfl, upd_same, ok.new hf, r.mono (Ex.new hf)⟩
theorem Out.tup {ts : List T} {vs : List V} (h : Out G A F H Q E (.ok (.tup ts))) (e : Ex F H) (r : reps G A F ts vs) : ∀ p, H p = none → Q (.ref p) (upd H p (.tup vs)) := fun p hp =>
  have hf := none_of_ex e hp
  h _ _ _ (Grow.new e hp) ⟨p, vs, rfl, upd_same, r.mono (Ex.new hf)⟩
theorem Out.flat {v : V} (h : Out G A F H Q E (.ok t)) (e : Ex F H) (r : rep G A F t v) : Q v H := h.here e r

theorem opS_or {r r' : R2} {f g k : T → T → Option T} (h : OpS G r f) (h' : OpS G r' g) (hk : ∀ x y, k x y = (f x y).or (g x y)) : OpS G (fun x y H Q => r x y H Q ∨ r' x y H Q) k := fun A F H Q E x y v w ok e rx ry o => by
  rw [hk] at o
  cases q : f x y with
  | some t =>
    rw [q] at o
    exact .inl (h A F H Q E x y v w ok e rx ry (by rw [q]; exact o))
  | none =>
    rw [q] at o
    exact .inr (h' A F H Q E x y v w ok e rx ry o)
def OpD (X : Cx) (cl : Cl) (f : Value → Value → Sem Value) (g : T → T → Option T) : Prop := ∃ r, OpR X f r ∧ OpS ⟨X.K, cl⟩ r g
end
section
variable {X : Cx} {cl : Cl}
theorem OpD.or {f : Value → Value → Sem Value} {g g' k : T → T → Option T} (h : OpD X cl f g) (h' : OpD X cl f g') (hk : ∀ x y, k x y = (g x y).or (g' x y)) : OpD X cl f k := by
  obtain ⟨r, a, b⟩ := h
  obtain ⟨r', a', b'⟩ := h'
  exact ⟨_, a.or a', opS_or b b' hk⟩
/-- int operators -/
theorem opD_I {C : Int → Int → Prop} {g : Int → Int → V} {gt : Int → Int → T} {f : Value → Value → Sem Value} {k : T → T → Option T} (h : OpR X f (rI C g)) (hg : ∀ (G : Ge) A F i j, rep G A F (gt i j) (g i j))
    (hk : ∀ x y t, k x y = some t → ∃ i j, x = .int i ∧ y = .int j ∧ C i j ∧ t = gt i j) : OpD X cl f k := ⟨_, h, fun A F H Q E x y v w ok e rx ry o => by
  cases q : k x y with
  | none => rw [q] at o; exact o.elim
  | some t =>
    obtain ⟨i, j, rfl, rfl, c, rfl⟩ := hk x y t q
    rw [q] at o
    cases rx
    cases ry
    exact ⟨i, j, rfl, rfl, c, Out.here o e (hg _ A F i j)⟩⟩
theorem opD_I0 {g : Int → Int → V} {gt : Int → Int → T} {f : Value → Value → Sem Value} {k : T → T → Option T} (h : OpR X f (rI0 g)) (hg : ∀ (G : Ge) A F i j, rep G A F (gt i j) (g i j))
    (hk : ∀ x y t, k x y = some t → ∃ i j, x = .int i ∧ y = .int j ∧ t = gt i j) : OpD X cl f k := ⟨_, h, fun A F H Q E x y v w ok e rx ry o => by
  cases q : k x y with
  | none => rw [q] at o; exact o.elim
  | some t =>
    obtain ⟨i, j, rfl, rfl, rfl⟩ := hk x y t q
    rw [q] at o
    cases rx
    cases ry
    exact ⟨i, j, rfl, rfl, Out.here o e (hg _ A F i j)⟩⟩
/-- two ints -/
def T.i2 (f : Int → Int → Option T) : T → T → Option T
  | .int i, .int j => f i j
  | _, _ => none
theorem T.i2_some {f : Int → Int → Option T} {x y t : T} (h : T.i2 f x y = some t) : ∃ i j, x = .int i ∧ y = .int j ∧ f i j = some t := by
  cases x <;> cases y <;> first | exact ⟨_, _, rfl, rfl, h⟩ | cases h
theorem if_some {c : Prop} [Decidable c] {t u : T} (h : (if c then some t else none) = some u) : c ∧ u = t := by
  by_cases q : c
  · rw [if_pos q] at h
    cases h
    exact ⟨q, rfl⟩
  · rw [if_neg q] at h
    cases h
theorem band {a b : Bool} (h : (a && b) = true) : a = true ∧ b = true := Bool.and_eq_true_iff.mp h
theorem opD_sub : OpD X cl (binaryOp .Sub) T.sub := opD_I0 (gt := fun i j => .int (i - j)) op_sub (fun _ _ _ _ _ => rfl) fun x y t h => by
  cases x <;> cases y <;> cases h <;> exact ⟨_, _, rfl, rfl, rfl⟩
theorem opD_band : OpD X cl (binaryOp .BitAnd) T.band := opD_I0 (gt := fun i j => .int (Builtin.bitAnd i j)) op_and (fun _ _ _ _ _ => rfl) fun x y t h => by
  cases x <;> cases y <;> cases h <;> exact ⟨_, _, rfl, rfl, rfl⟩
theorem opD_bor : OpD X cl (binaryOp .BitOr) T.bor := opD_I0 (gt := fun i j => .int (Builtin.bitOr i j)) op_or (fun _ _ _ _ _ => rfl) fun x y t h => by
  cases x <;> cases y <;> cases h <;> exact ⟨_, _, rfl, rfl, rfl⟩
theorem opD_bxor : OpD X cl (binaryOp .BitXor) T.bxor := opD_I0 (gt := fun i j => .int (Builtin.bitXor i j)) op_xor (fun _ _ _ _ _ => rfl) fun x y t h => by
  cases x <;> cases y <;> cases h <;> exact ⟨_, _, rfl, rfl, rfl⟩
theorem opD_fdiv : OpD X cl (binaryOp .FloorDiv) T.fdiv := opD_I (gt := fun i j => .int (i / j)) op_fdivW (fun _ _ _ _ _ => rfl) fun x y t h => by
  obtain ⟨i, j, rfl, rfl, h⟩ := T.i2_some (f := fun i j => if decide (0 < j) && dfit j then some (.int (i / j)) else none) (x := x) (y := y) (t := t) (by cases x <;> cases y <;> exact h)
  obtain ⟨c, rfl⟩ := if_some h
  obtain ⟨c1, c2⟩ := band c
  exact ⟨_, _, rfl, rfl, ⟨of_decide_eq_true c1, of_decide_eq_true c2⟩, rfl⟩
theorem opD_mod : OpD X cl (binaryOp .Mod) T.mod := opD_I (gt := fun i j => .int (i % j)) op_mod (fun _ _ _ _ _ => rfl) fun x y t h => by
  obtain ⟨i, j, rfl, rfl, h⟩ := T.i2_some (f := fun i j => if decide (0 < j) then some (.int (i % j)) else none) (x := x) (y := y) (t := t) (by cases x <;> cases y <;> exact h)
  obtain ⟨c, rfl⟩ := if_some h
  exact ⟨_, _, rfl, rfl, of_decide_eq_true c, rfl⟩
theorem opD_pow : OpD X cl (binaryOp .Pow) T.pow := opD_I (gt := fun i j => .int (i ^ j.toNat)) op_pow (fun _ _ _ _ _ => rfl) fun x y t h => by
  obtain ⟨i, j, rfl, rfl, h⟩ := T.i2_some (f := fun i j => if decide (0 ≤ j) && decide (j ≤ 1000000) && sfit i then some (.int (i ^ j.toNat)) else none) (x := x) (y := y) (t := t) (by cases x <;> cases y <;> exact h)
  obtain ⟨c, rfl⟩ := if_some h
  obtain ⟨c, c3⟩ := band c
  obtain ⟨c1, c2⟩ := band c
  exact ⟨_, _, rfl, rfl, ⟨of_decide_eq_true c1, of_decide_eq_true c2, of_decide_eq_true c3⟩, rfl⟩
theorem opD_shl : OpD X cl (binaryOp .LShift) T.shl := opD_I (gt := fun i j => .int (i * 2 ^ j.toNat)) op_shl (fun _ _ _ _ _ => rfl) fun x y t h => by
  obtain ⟨i, j, rfl, rfl, h⟩ := T.i2_some (f := fun i j => if decide (0 ≤ j) && decide (j ≤ 1000000) && sfit i then some (.int (i * 2 ^ j.toNat)) else none) (x := x) (y := y) (t := t) (by cases x <;> cases y <;> exact h)
  obtain ⟨c, rfl⟩ := if_some h
  obtain ⟨c, c3⟩ := band c
  obtain ⟨c1, c2⟩ := band c
  exact ⟨_, _, rfl, rfl, ⟨of_decide_eq_true c1, of_decide_eq_true c2, of_decide_eq_true c3⟩, rfl⟩
theorem opD_shr : OpD X cl (binaryOp .RShift) T.shr := opD_I (gt := fun i j => .int (i / 2 ^ j.toNat)) op_shr (fun _ _ _ _ _ => rfl) fun x y t h => by
  obtain ⟨i, j, rfl, rfl, h⟩ := T.i2_some (f := fun i j => if decide (0 ≤ j) then some (.int (i / 2 ^ j.toNat)) else none) (x := x) (y := y) (t := t) (by cases x <;> cases y <;> exact h)
  obtain ⟨c, rfl⟩ := if_some h
  exact ⟨_, _, rfl, rfl, of_decide_eq_true c, rfl⟩
/-- + of ints, texts, lists, tuples -/
def T.addI : T → T → Option T
  | .int i, .int j => some (.int (i + j))
  | _, _ => none
def T.addS : T → T → Option T
  | .str x, .str y => if lfit (x.length + y.length) = true then some (.str (x ++ y)) else none
  | _, _ => none
def T.addL : T → T → Option T
  | .lst _ xs, .lst _ ys => if lfit (xs.length + ys.length) = true then some (.lst none (xs ++ ys)) else none
  | _, _ => none
def T.addT : T → T → Option T
  | .tup (x :: xs), .tup ys => if lfit (xs.length + 1 + ys.length) = true then some (.tup (x :: xs ++ ys)) else none
  | _, _ => none
theorem opD_addI : OpD X cl (binaryOp .Add) T.addI := opD_I0 (gt := fun i j => .int (i + j)) op_add (fun _ _ _ _ _ => rfl) fun x y t h => by
  cases x <;> cases y <;> cases h <;> exact ⟨_, _, rfl, rfl, rfl⟩
theorem opD_addS : OpD X cl (binaryOp .Add) T.addS := ⟨_, op_add_str, fun A F H Q E x y v w ok e rx ry o => by
  cases x <;> cases y <;> (try exact o.elim)
  rename_i a b
  cases rx
  cases ry
  by_cases c : lfit (a.length + b.length) = true
  · have o' : Out _ A F H Q E (.of (if lfit (a.length + b.length) = true then some (.str (a ++ b)) else none)) := o
    rw [if_pos c] at o'
    exact ⟨a, b, rfl, rfl, of_decide_eq_true c, Out.here o' e rfl⟩
  · have o' : Out _ A F H Q E (.of (if lfit (a.length + b.length) = true then some (.str (a ++ b)) else none)) := o
    rw [if_neg c] at o'
    exact o'.elim⟩
theorem opD_addL : OpD X cl (binaryOp .Add) T.addL := ⟨_, op_cat, fun A F H Q E x y v w ok e rx ry o => by
  cases x <;> cases y <;> (try exact o.elim)
  rename_i g1 xs g2 ys
  have o' : Out _ A F H Q E (.of (if lfit (xs.length + ys.length) = true then some (.lst none (xs ++ ys)) else none)) := o
  obtain ⟨a, vs, rfl, h1, h2, h3⟩ := rx
  obtain ⟨b, ws, rfl, k1, k2, k3⟩ := ry
  by_cases c : lfit (xs.length + ys.length) = true
  · rw [if_pos c] at o'
    refine ⟨a, b, vs, ws, rfl, rfl, e _ _ h1, e _ _ k1, ?_, Out.lst o' ok e (h3.append k3)⟩
    rw [h3.length, k3.length]
    exact of_decide_eq_true c
  · rw [if_neg c] at o'
    exact o'.elim⟩
theorem opD_addT : OpD X cl (binaryOp .Add) T.addT := ⟨_, op_catT, fun A F H Q E x y v w ok e rx ry o => by
  cases x with
  | tup xs =>
    cases xs with
    | nil => exact o.elim
    | cons x xs =>
      cases y with
      | tup ys =>
        have o' : Out _ A F H Q E (.of (if lfit (xs.length + 1 + ys.length) = true then some (.tup (x :: xs ++ ys)) else none)) := o
        obtain ⟨a, vs, rfl, h1, h3⟩ := rx
        obtain ⟨b, ws, rfl, k1, k3⟩ := ry
        have l1 := h3.length
        have l2 := k3.length
        rw [List.length_cons] at l1
        by_cases c : lfit (xs.length + 1 + ys.length) = true
        · rw [if_pos c] at o'
          refine ⟨a, b, vs, ws, rfl, rfl, ex_s e h1, ex_s e k1, (fun z => by rw [z] at l1; cases l1), (by rw [l1, l2]; exact of_decide_eq_true c), fun z => ?_, fun _ => Out.tup o' e (h3.append k3)⟩
          subst z
          cases ys with
          | cons _ _ => cases l2
          | nil => exact Out.here o' e ⟨a, vs, rfl, h1, by rw [List.append_nil]; exact h3⟩
        · rw [if_neg c] at o'
          exact o'.elim
      | _ => exact o.elim
  | _ => exact o.elim⟩
theorem opD_add : OpD X cl (binaryOp .Add) T.add := ((opD_addI.or opD_addS (k := fun x y => (T.addI x y).or (T.addS x y)) fun _ _ => rfl).or (opD_addL.or opD_addT (k := fun x y => (T.addL x y).or (T.addT x y)) fun _ _ => rfl)) fun x y => by
  cases x with
  | tup xs => cases xs <;> cases y <;> first | rfl | simp only [T.add, T.addI, T.addS, T.addL, T.addT, Option.none_or, Option.or_none]
  | _ => cases y <;> first | rfl | simp only [T.add, T.addI, T.addS, T.addL, T.addT, Option.none_or, Option.or_none]
def T.mulI : T → T → Option T
  | .int i, .int j => if mfit i j = true then some (.int (i * j)) else none
  | _, _ => none
def T.mulL : T → T → Option T
  | .lst _ xs, .int k => if decide (-(2 ^ 63) ≤ k) && decide (k < 2 ^ 63) && lfit (xs.length * k.toNat) then some (.lst none (List.replicate k.toNat xs).flatten) else none
  | _, _ => none
theorem opD_mulI : OpD X cl (binaryOp .Mult) T.mulI := opD_I (gt := fun i j => .int (i * j)) op_mulW (fun _ _ _ _ _ => rfl) fun x y t h => by
  obtain ⟨i, j, rfl, rfl, h⟩ := T.i2_some (f := fun i j => if mfit i j = true then some (.int (i * j)) else none) (x := x) (y := y) (t := t) (by cases x <;> cases y <;> exact h)
  obtain ⟨c, rfl⟩ := if_some h
  exact ⟨_, _, rfl, rfl, (show i.natAbs.log2 + j.natAbs.log2 < 1000000 from of_decide_eq_true c), rfl⟩
theorem reps.flat {G : Ge} {A : Al} {F : Hp} {ts : List T} {vs : List V} (h : reps G A F ts vs) : ∀ n : Nat, reps G A F (List.replicate n ts).flatten (List.replicate n vs).flatten
  | 0 => rfl
  | n + 1 => by
    rw [List.replicate_succ, List.replicate_succ, List.flatten_cons, List.flatten_cons]
    exact h.append (reps.flat h n)
theorem opD_mulL : OpD X cl (binaryOp .Mult) T.mulL := ⟨_, op_rep, fun A F H Q E x y v w ok e rx ry o => by
  cases x <;> cases y <;> (try exact o.elim)
  rename_i g xs k
  have o' : Out _ A F H Q E (.of (if decide (-(2 ^ 63) ≤ k) && decide (k < 2 ^ 63) && lfit (xs.length * k.toNat) then some (.lst none (List.replicate k.toNat xs).flatten) else none)) := o
  obtain ⟨a, vs, rfl, h1, h2, h3⟩ := rx
  cases ry
  by_cases c : (decide (-(2 ^ 63) ≤ k) && decide (k < 2 ^ 63) && lfit (xs.length * k.toNat)) = true
  · rw [if_pos c] at o'
    obtain ⟨c, c3⟩ := band c
    obtain ⟨c1, c2⟩ := band c
    exact ⟨a, k, vs, rfl, rfl, e _ _ h1, of_decide_eq_true c1, of_decide_eq_true c2, (by rw [h3.length]; exact of_decide_eq_true c3), Out.lst o' ok e (h3.flat _)⟩
  · rw [if_neg c] at o'
    exact o'.elim⟩
theorem opD_mul : OpD X cl (binaryOp .Mult) T.mul := opD_mulI.or opD_mulL fun x y => by
  cases x <;> cases y <;> (try rfl)
  simp only [T.mul, T.mulI, T.mulL, Option.or_none]

/-! ### comparisons -/
section
variable {G : Ge} {A : Al} {F : Hp}
mutual
theorem dp_of : ∀ {t : T} {v : V} {d : PyData}, rep G A F t v → T.pd t = some d → Dp G.K F v d
  | .non, v, d, h, e => by cases h; cases e; exact .non
  | .bl b, v, d, h, e => by cases h; cases e; exact .bl b
  | .int i, v, d, h, e => by cases h; cases e; exact .int i
  | .str s, v, d, h, e => by cases h; cases e; exact .str s
  | .lst g ts, v, d, ⟨a, vs, h1, h2, h3, h4⟩, e => by
    obtain ⟨ds, e1, e2⟩ := Option.map_eq_some_iff.mp (show (T.pds ts).map PyData.list = some d from e)
    subst e2 h1
    exact .lst (SqL.of h2) (dps_of h4 e1)
  | .ro ts, v, d, ⟨a, vs, h1, h2, h4⟩, e => by
    obtain ⟨ds, e1, e2⟩ := Option.map_eq_some_iff.mp (show (T.pds ts).map PyData.list = some d from e)
    subst e2 h1
    exact .lst h2 (dps_of h4 e1)
  | .tup ts, v, d, ⟨a, vs, h1, h2, h4⟩, e => by
    obtain ⟨ds, e1, e2⟩ := Option.map_eq_some_iff.mp (show (T.pds ts).map PyData.tuple = some d from e)
    subst e2 h1
    exact .tup (SqT.of h2) (dps_of h4 e1)
  | .ins _ _ _ _, v, d, h, e => by cases e
  | .dct _ _ _, v, d, h, e => by cases e
  | .exn _ _ _, v, d, h, e => by cases e
theorem dps_of : ∀ {ts : List T} {vs : List V} {ds : List PyData}, reps G A F ts vs → T.pds ts = some ds → DpAll G.K F vs ds
  | [], vs, ds, h, e => by
    have h' : vs = [] := h
    subst h'
    cases e
    exact .nil
  | t :: ts, vs, ds, ⟨v, ws, h1, h2, h3⟩, e => by
    have e' : (match T.pd t, T.pds ts with | some d, some ds => some (d :: ds) | _, _ => none) = some ds := e
    cases q : T.pd t with
    | none => rw [q] at e'; cases e'
    | some d =>
      cases q2 : T.pds ts with
      | none => rw [q, q2] at e'; cases e'
      | some ds2 =>
        rw [q, q2] at e'
        cases e'
        subst h1
        exact .cons (dp_of h2 q) (dps_of h3 q2)
end
mutual
theorem dp_mono {K : PySem.W.Frag} {F H : Hp} (e : Ex F H) : ∀ {v : V} {d : PyData}, Dp K F v d → Dp K H v d
  | _, _, .non => .non
  | _, _, .bl b => .bl b
  | _, _, .int b => .int b
  | _, _, .str b => .str b
  | _, _, .lst h k => .lst (ex_l e h) (dps_mono e k)
  | _, _, .tup h k => .tup (ex_t e h) (dps_mono e k)
theorem dps_mono {K : PySem.W.Frag} {F H : Hp} (e : Ex F H) : ∀ {vs : List V} {ds : List PyData}, DpAll K F vs ds → DpAll K H vs ds
  | _, _, .nil => .nil
  | _, _, .cons h k => .cons (dp_mono e h) (dps_mono e k)
end
end
theorem opD_eq (hu : X.A.units + 64 < cLine) : OpD X cl (compareOp .Eq) T.eq := ⟨_, op_eqD hu, fun A F H Q E x y v w ok e rx ry o => by
  unfold T.eq at o
  cases q1 : T.pd x with
  | none => rw [q1] at o; exact o.elim
  | some d =>
    cases q2 : T.pd y with
    | none => rw [q1, q2] at o; exact o.elim
    | some d2 =>
      rw [q1, q2] at o
      by_cases c : (SeqAt.shaped d && SeqAt.shaped d2) = true
      · have o' : Out _ A F H Q E (.of (if (SeqAt.shaped d && SeqAt.shaped d2) = true then some (.bl (PyData.eqv d d2)) else none)) := o
        rw [if_pos c] at o'
        exact ⟨d, d2, dp_mono e (dp_of rx q1), dp_mono e (dp_of ry q2), (band c).1, (band c).2, Out.here o' e rfl⟩
      · have o' : Out _ A F H Q E (.of (if (SeqAt.shaped d && SeqAt.shaped d2) = true then some (.bl (PyData.eqv d d2)) else none)) := o
        rw [if_neg c] at o'
        exact o'.elim⟩
theorem opD_ne (hu : X.A.units + 64 < cLine) : OpD X cl (compareOp .NotEq) T.ne := ⟨_, op_neD hu, fun A F H Q E x y v w ok e rx ry o => by
  unfold T.ne at o
  cases q1 : T.pd x with
  | none => rw [q1] at o; exact o.elim
  | some d =>
    cases q2 : T.pd y with
    | none => rw [q1, q2] at o; exact o.elim
    | some d2 =>
      rw [q1, q2] at o
      by_cases c : (SeqAt.shaped d && SeqAt.shaped d2) = true
      · have o' : Out _ A F H Q E (.of (if (SeqAt.shaped d && SeqAt.shaped d2) = true then some (.bl (!PyData.eqv d d2)) else none)) := o
        rw [if_pos c] at o'
        exact ⟨d, d2, dp_mono e (dp_of rx q1), dp_mono e (dp_of ry q2), (band c).1, (band c).2, Out.here o' e rfl⟩
      · have o' : Out _ A F H Q E (.of (if (SeqAt.shaped d && SeqAt.shaped d2) = true then some (.bl (!PyData.eqv d d2)) else none)) := o
        rw [if_neg c] at o'
        exact o'.elim⟩
theorem opD_lt : OpD X cl (compareOp .Lt) T.lt := ⟨_, op_lt.or op_lt_str, fun A F H Q E x y v w ok e rx ry o => by
  cases x <;> cases y <;> (try exact o.elim)
  · cases rx; cases ry
    exact .inl ⟨_, _, rfl, rfl, Out.here o e rfl⟩
  · cases rx; cases ry
    exact .inr ⟨_, _, rfl, rfl, Out.here o e rfl⟩⟩
theorem opD_le : OpD X cl (compareOp .LtE) T.le := opD_I0 (gt := fun i j => .bl (decide (i ≤ j))) op_le (fun _ _ _ _ _ => rfl) fun x y t h => by
  cases x <;> cases y <;> cases h <;> exact ⟨_, _, rfl, rfl, rfl⟩
theorem opD_gt : OpD X cl (compareOp .Gt) T.gt := opD_I0 (gt := fun i j => .bl (decide (j < i))) op_gt (fun _ _ _ _ _ => rfl) fun x y t h => by
  cases x <;> cases y <;> cases h <;> exact ⟨_, _, rfl, rfl, rfl⟩
theorem opD_ge : OpD X cl (compareOp .GtE) T.ge := opD_I0 (gt := fun i j => .bl (decide (j ≤ i))) op_ge (fun _ _ _ _ _ => rfl) fun x y t h => by
  cases x <;> cases y <;> cases h <;> exact ⟨_, _, rfl, rfl, rfl⟩
theorem isnon {G : Ge} {A : Al} {F : Hp} {x : T} {v : V} (h : rep G A F x v) : decide (v = .non) = T.nn x := by
  cases x with
  | non => cases h; rfl
  | bl b => cases h; rfl
  | int b => cases h; rfl
  | str b => cases h; rfl
  | lst g ts => obtain ⟨a, vs, rfl, _⟩ := h; rfl
  | tup ts => obtain ⟨a, vs, rfl, _⟩ := h; rfl
  | ro ts => obtain ⟨a, vs, rfl, _⟩ := h; rfl
  | ins g c ns ts => obtain ⟨a, dx, vs, rfl, _⟩ := h; rfl
  | dct g ks ts => obtain ⟨a, vs, rfl, _⟩ := h; rfl
  | exn c ns ts => obtain ⟨a, cls, dx, _, rfl, _⟩ := h; rfl
theorem opD_isN : OpD X cl (compareOp .Is) T.isN := ⟨_, op_isN, fun A F H Q E x y v w ok e rx ry o => by
  cases y <;> (try exact o.elim)
  cases ry
  have o' : Out _ A F H Q E (.ok (.bl (T.nn x))) := o
  exact ⟨rfl, by rw [isnon rx]; exact Out.here o' e rfl⟩⟩
theorem opD_notN : OpD X cl (compareOp .IsNot) T.notN := ⟨_, op_notN, fun A F H Q E x y v w ok e rx ry o => by
  cases y <;> (try exact o.elim)
  cases ry
  have o' : Out _ A F H Q E (.ok (.bl (!T.nn x))) := o
  exact ⟨rfl, by rw [isnon rx]; exact Out.here o' e rfl⟩⟩
section
variable {G : Ge} {A : Al} {F : Hp}
theorem fv_of : ∀ {t : T} {v u : V}, rep G A F t v → T.fv t = some u → v = u ∧ flatV v = true
  | .non, _, _, h, e => by cases h; cases e; exact ⟨rfl, rfl⟩
  | .bl _, _, _, h, e => by cases h; cases e; exact ⟨rfl, rfl⟩
  | .int _, _, _, h, e => by cases h; cases e; exact ⟨rfl, rfl⟩
  | .str _, _, _, h, e => by cases h; cases e; exact ⟨rfl, rfl⟩
  | .lst _ _, _, _, _, e => by cases e
  | .ro _, _, _, _, e => by cases e
  | .tup _, _, _, _, e => by cases e
  | .ins _ _ _ _, _, _, _, e => by cases e
  | .dct _ _ _, _, _, _, e => by cases e
  | .exn _ _ _, _, _, _, e => by cases e
theorem fvs_of : ∀ {ts : List T} {vs us : List V}, reps G A F ts vs → T.fvs ts = some us → vs = us ∧ vs.all flatV = true
  | [], vs, us, h, e => by
    have h' : vs = [] := h
    subst h'
    cases e
    exact ⟨rfl, rfl⟩
  | t :: ts, vs, us, ⟨v, ws, h1, h2, h3⟩, e => by
    have e' : (match T.fv t, T.fvs ts with | some d, some ds => some (d :: ds) | _, _ => none) = some us := e
    cases q : T.fv t with
    | none => rw [q] at e'; cases e'
    | some d =>
      cases q2 : T.fvs ts with
      | none => rw [q, q2] at e'; cases e'
      | some ds2 =>
        rw [q, q2] at e'
        cases e'
        subst h1
        obtain ⟨a1, a2⟩ := fv_of h2 q
        obtain ⟨b1, b2⟩ := fvs_of h3 q2
        subst a1 b1
        exact ⟨rfl, by rw [List.all_cons, a2, b2] <;> rfl⟩
theorem items_of {t : T} {v : V} {ts : List T} (h : rep G A F t v) (e : T.items t = some ts) : ∃ a vs, v = .ref a ∧ (SqL G.K F a vs ∨ F a = some (.tup vs)) ∧ reps G A F ts vs := by
  cases t <;> (try cases e)
  · obtain ⟨a, vs, rfl, h2, h3, h4⟩ := h
    exact ⟨a, vs, rfl, .inl (SqL.of h2), h4⟩
  · obtain ⟨a, vs, rfl, h2, h4⟩ := h
    exact ⟨a, vs, rfl, .inr h2, h4⟩
  · obtain ⟨a, vs, rfl, h2, h4⟩ := h
    exact ⟨a, vs, rfl, .inl h2, h4⟩
end
theorem sq_mono {K : PySem.W.Frag} {F H : Hp} {a : Addr} {vs : List V} (e : Ex F H) (h : SqL K F a vs ∨ F a = some (.tup vs)) : SqL K H a vs ∨ SqT K H a vs := h.imp (ex_l e) (ex_s e)
theorem opD_in : OpD X cl (compareOp .In) (T.isIn false) := ⟨_, op_in_seq, fun A F H Q E x y v w ok e rx ry o => by
  unfold T.isIn at o
  cases q1 : T.fv x with
  | none => rw [q1] at o; exact o.elim
  | some u =>
    cases q2 : T.items y with
    | none => rw [q1, q2] at o; exact o.elim
    | some ts =>
      cases q3 : T.fvs ts with
      | none =>
        rw [q1, q2] at o
        simp only [q3] at o
        exact o.elim
      | some us =>
        rw [q1, q2] at o
        simp only [q3] at o
        obtain ⟨rfl, f1⟩ := fv_of rx q1
        obtain ⟨a, vs, rfl, s, r⟩ := items_of ry q2
        obtain ⟨rfl, f2⟩ := fvs_of r q3
        exact ⟨a, _, rfl, sq_mono e s, f1, f2, Out.here o e rfl⟩⟩
theorem opD_notIn : OpD X cl (compareOp .NotIn) (T.isIn true) := ⟨_, op_notIn_seq, fun A F H Q E x y v w ok e rx ry o => by
  unfold T.isIn at o
  cases q1 : T.fv x with
  | none => rw [q1] at o; exact o.elim
  | some u =>
    cases q2 : T.items y with
    | none => rw [q1, q2] at o; exact o.elim
    | some ts =>
      cases q3 : T.fvs ts with
      | none =>
        rw [q1, q2] at o
        simp only [q3] at o
        exact o.elim
      | some us =>
        rw [q1, q2] at o
        simp only [q3] at o
        obtain ⟨rfl, f1⟩ := fv_of rx q1
        obtain ⟨a, vs, rfl, s, r⟩ := items_of ry q2
        obtain ⟨rfl, f2⟩ := fvs_of r q3
        exact ⟨a, _, rfl, sq_mono e s, f1, f2, Out.here o e rfl⟩⟩
/-! ### a place -/
def IxD (X : Cx) (cl : Cl) (g : T → T → Option T) : Prop := ∃ r, IxR X r ∧ OpS ⟨X.K, cl⟩ r g
theorem reps.at {G : Ge} {A : Al} {F : Hp} {ts : List T} {vs : List V} {i : Int} {t : T} (h : reps G A F ts vs) (e : atI ts i = some t) : ∃ v, atI vs i = some v ∧ rep G A F t v := by
  unfold atI at e ⊢
  rw [h.length]
  cases q : ixN ts.length i with
  | none => rw [q] at e; cases e
  | some j =>
    rw [q] at e
    obtain ⟨v, e2, r⟩ := h.get (i := j) e
    exact ⟨v, e2, r⟩
theorem ixD : IxD X cl T.ix := ⟨_, ix_seq, fun A F H Q E x y v w ok e rx ry o => by
  cases x <;> (try exact o.elim)
  · -- a text
    rename_i z
    cases y <;> (try exact o.elim)
    cases rx; cases ry
    rename_i i
    have o' : Out _ A F H Q E (.of (if lfit z.length = true then (atI z.cps.toList i).map fun c => .str ⟨#[c]⟩ else none)) := o
    by_cases c : lfit z.length = true
    · rw [if_pos c] at o'
      cases q : atI z.cps.toList i with
      | none => rw [q] at o'; exact o'.elim
      | some k =>
        rw [q] at o'
        exact .inr (.inr ⟨z, i, k, rfl, rfl, of_decide_eq_true c, q, Out.here o' e rfl⟩)
    · rw [if_neg c] at o'
      exact o'.elim
  · rename_i g ts
    cases y <;> (try exact o.elim)
    cases ry
    rename_i i
    obtain ⟨a, vs, rfl, h2, h3, h4⟩ := rx
    have o' : Out _ A F H Q E (.of (atI ts i)) := o
    cases q : atI ts i with
    | none => rw [q] at o'; exact o'.elim
    | some t =>
      rw [q] at o'
      obtain ⟨u, e2, r⟩ := h4.at q
      exact .inl ⟨a, vs, i, u, rfl, rfl, SqL.of (e _ _ h2), e2, Out.here o' e r⟩
  · rename_i ts
    cases y <;> (try exact o.elim)
    cases ry
    rename_i i
    obtain ⟨a, vs, rfl, h2, h4⟩ := rx
    have o' : Out _ A F H Q E (.of (atI ts i)) := o
    cases q : atI ts i with
    | none => rw [q] at o'; exact o'.elim
    | some t =>
      rw [q] at o'
      obtain ⟨u, e2, r⟩ := h4.at q
      exact .inr (.inl ⟨a, vs, i, u, rfl, rfl, ex_s e h2, e2, Out.here o' e r⟩)
  · rename_i ts
    cases y <;> (try exact o.elim)
    cases ry
    rename_i i
    obtain ⟨a, vs, rfl, h2, h4⟩ := rx
    have o' : Out _ A F H Q E (.of (atI ts i)) := o
    cases q : atI ts i with
    | none => rw [q] at o'; exact o'.elim
    | some t =>
      rw [q] at o'
      obtain ⟨u, e2, r⟩ := h4.at q
      exact .inl ⟨a, vs, i, u, rfl, rfl, ex_l e h2, e2, Out.here o' e r⟩⟩
/-! ### one operand -/
def UnD (X : Cx) (cl : Cl) (f : Value → Sem Value) (g : T → Option T) : Prop := ∃ r, UnR X f r ∧ UnS ⟨X.K, cl⟩ r g
theorem unD_neg : UnD X cl (unaryOp .USub) T.neg := ⟨_, un_neg, fun A F H Q E x v ok e rx o => by
  cases x <;> (try exact o.elim)
  cases rx
  exact ⟨_, rfl, Out.here o e rfl⟩⟩
theorem unD_inv : UnD X cl (unaryOp .Invert) T.inv := ⟨_, un_inv, fun A F H Q E x v ok e rx o => by
  cases x <;> (try exact o.elim)
  cases rx
  exact ⟨_, rfl, Out.here o e rfl⟩⟩
theorem tru_of {G : Ge} {A : Al} {F H : Hp} {t : T} {v : V} {b : Bool} (h : rep G A F t v) (e : Ex F H) (q : T.tru t = some b) : TruV G.K v H b := by
  cases t <;> (try cases h) <;> (try cases q)
  · rfl
  · rfl
  · rfl
  · rename_i s
    have q' : (if lfit s.length = true then some ((s.length : Int) != 0) else none) = some b := q
    by_cases c : lfit s.length = true
    · rw [if_pos c] at q'
      cases q'
      exact ⟨of_decide_eq_true c, rfl⟩
    · rw [if_neg c] at q'
      cases q'
  · rename_i g ts a h
    obtain ⟨vs, rfl, h2, h3, h4⟩ := h
    refine .inl ⟨vs, SqL.of (e _ _ h2), ?_⟩
    have l := h4.length
    cases vs <;> cases ts <;> first | rfl | cases l
  · rename_i ts a h
    obtain ⟨vs, rfl, h2, h4⟩ := h
    refine .inr (.inl ⟨vs, ex_s e h2, ?_⟩)
    have l := h4.length
    cases vs <;> cases ts <;> first | rfl | cases l
  · rename_i ts a h
    obtain ⟨vs, rfl, h2, h4⟩ := h
    refine .inl ⟨vs, ex_l e h2, ?_⟩
    have l := h4.length
    cases vs <;> cases ts <;> first | rfl | cases l
end
end Py

set_option Elab.async false
set_option linter.all false
set_option maxRecDepth 100000
set_option maxHeartbeats 4000000
namespace Py
open PySem L2 PySem.Spec PyProof.Rows Evl

/-! ### what an expression is worth, as a function of the frame -/
namespace P
abbrev Ex1 := Fv → Res T
abbrev Bx := Fv → Res Bool
abbrev Ax := Fv → Res (List T)
def var (d i : Nat) : Ex1 := fun env => .of (rd d i env)
def c (t : T) : Ex1 := fun _ => .ok t
def bin (f : T → T → Option T) (p q : Ex1) : Ex1 := fun env => (p env).bind fun x => (q env).bind fun y => .of (f x y)
def un (f : T → Option T) (p : Ex1) : Ex1 := fun env => (p env).bind fun x => .of (f x)
def tb (p : Ex1) : Bx := fun env => (p env).bind fun x => .of x.boo
def tr (p : Ex1) : Bx := fun env => (p env).bind fun x => .of x.tru
def and (p q : Bx) : Bx := fun env => (p env).bind fun b => if b = true then q env else .ok false
def or (p q : Bx) : Bx := fun env => (p env).bind fun b => if b = true then .ok true else q env
def not (p : Bx) : Bx := fun env => (p env).bind fun b => .ok (!b)
def andV (p q : Ex1) : Ex1 := fun env => (p env).bind fun x => (Res.of x.boo).bind fun b => if b = true then q env else .ok (.bl false)
def orV (p q : Ex1) : Ex1 := fun env => (p env).bind fun x => (Res.of x.boo).bind fun b => if b = true then .ok (.bl true) else q env
def notV (p : Ex1) : Ex1 := fun env => (p env).bind fun x => (Res.of x.boo).bind fun b => .ok (.bl (!b))
def ite (t : Bx) (p q : Ex1) : Ex1 := fun env => (t env).bind fun b => if b = true then p env else q env
/-- a < b < c -/
def chain (f g : T → T → Option T) (p q r : Ex1) : Ex1 := fun env => (p env).bind fun x => (q env).bind fun y => (Res.of (f x y)).bind fun z => (Res.of z.boo).bind fun b =>
  if b = true then (r env).bind fun u => .of (g y u) else .ok (.bl false)
def chainT (f g : T → T → Option T) (p q r : Ex1) : Bx := fun env => (p env).bind fun x => (q env).bind fun y => (Res.of (f x y)).bind fun z => (Res.of z.boo).bind fun b =>
  if b = true then (r env).bind fun u => (Res.of (g y u)).bind fun z => .of z.boo else .ok false
def nil : Ax := fun _ => .ok []
def cons (p : Ex1) (a : Ax) : Ax := fun env => (p env).bind fun x => (a env).bind fun xs => .ok (x :: xs)
def tup (a : Ax) : Ex1 := fun env => (a env).bind fun xs => if lfit xs.length = true then .ok (.tup xs) else .stuck
def lst (a : Ax) : Ex1 := fun env => (a env).bind fun xs => if lfit xs.length = true then .ok (.lst none xs) else .stuck
/-- a call by the values of its arguments -/
def call (f : List T → Res T) (a : Ax) : Ex1 := fun env => (a env).bind f
end P

section
variable {G : Ge} {d : Nat} {W : WX} {ta tb tc : TE} {p q r : P.Ex1} {tt tu : TT} {b b' : P.Bx} {f g : T → T → Option T} {r1 r2 : R2} {tl : TA} {a : P.Ax}
theorem se_var {i : Nat} : SE G d W (tVar i) (P.var d i) := fun A env σ F H Q R e o => by
  have o' : Out G A F H Q (WE W σ) (.of (rd d i env)) := o
  cases z : rd d i env with
  | none => rw [z] at o'; exact o'.elim
  | some t =>
    rw [z] at o'
    obtain ⟨v, h1, h2⟩ := R.slots i t z
    exact ⟨v, h1, Out.here o' e h2⟩
theorem se_c {v : V} {t : T} (h : ∀ A F, rep G A F t v) : SE G d W (tC v) (P.c t) := fun A env σ F H Q R e o => Out.here o e (h A F)
theorem Outg.boo {α β : Type} {A : Al} {F H : Hp} {E : XK} {R' : Hp → α → β → Prop} {Q' : β → Hp → Prop} {x : T} {v : V} {k : Bool → Res α} (rx : rep G A F x v) (o : Outg G A F H R' Q' E ((Res.of x.boo).bind k)) : ∃ c, v = .bl c ∧ Outg G A F H R' Q' E (k c) := by
  cases x <;> (try exact o.elim)
  cases rx
  exact ⟨_, rfl, o⟩
theorem se_op (hr : OpS G r1 f) (ha : SE G d W ta p) (hb : SE G d W tb q) : SE G d W (tOp r1 ta tb) (P.bin f p q) := fun A env σ F H Q R e o =>
  ha A env σ F H _ R e (Outg.bind o fun x v F1 H1 g1 rx o1 => hb A env σ F1 H1 _ (R.mono g1.ex) g1.sub (Outg.bind o1 fun y w F2 H2 g2 ry o2 =>
    hr A F2 H2 Q _ x y v w ((R.ok.mono g1.ex).mono g2.ex) g2.sub (rx.mono g2.ex) ry o2))
theorem se_un {r1 : V → Hp → VK → Prop} {f : T → Option T} (hr : UnS G r1 f) (ha : SE G d W ta p) : SE G d W (tUn r1 ta) (P.un f p) := fun A env σ F H Q R e o =>
  ha A env σ F H _ R e (Outg.bind o fun x v F1 H1 g1 rx o1 => hr A F1 H1 Q _ x v (R.ok.mono g1.ex) g1.sub rx o1)
theorem boo_end {A : Al} {F H : Hp} {E : XK} {Q : Bool → Hp → Prop} {x : T} {v : V} (rx : rep G A F x v) (e : Ex F H) (o : OutB G A F H Q E (.of x.boo)) : ∃ c, v = .bl c ∧ Q c H := by
  cases x <;> (try exact o.elim)
  cases rx
  exact ⟨_, rfl, OutB.here o e⟩
theorem st_tb (ha : SE G d W ta p) : ST G d W (tB ta) (P.tb p) := fun A env σ F H Q R e o =>
  ha A env σ F H _ R e (Outg.bind o fun x v F1 H1 g1 rx o1 => boo_end rx g1.sub o1)
theorem st_test (ha : SE G d W ta p) : ST G d W (tTest ta) (P.tb p) := fun A env σ F H Q R e o =>
  ha A env σ F H _ R e (Outg.bind o fun x v F1 H1 g1 rx o1 => boo_end rx g1.sub o1)
theorem st_tr (ha : SE G d W ta p) : ST G d W (fun σ H Q => ta σ H fun x H' => ∃ k, TruV G.K x H' k ∧ Q k H') (P.tr p) := fun A env σ F H Q R e o =>
  ha A env σ F H _ R e (Outg.bind o fun x v F1 H1 g1 rx o1 => by
    cases z : x.tru with
    | none => rw [z] at o1; exact o1.elim
    | some k =>
      rw [z] at o1
      exact ⟨k, tru_of rx g1.sub z, OutB.here o1 g1.sub⟩)
theorem st_and (ha : ST G d W tt b) (hb : ST G d W tu b') : ST G d W (tAnd tt tu) (P.and b b') := fun A env σ F H Q R e o =>
  ha A env σ F H _ R e (Outg.bind o fun x v F1 H1 g1 rx o1 => by
    subst rx
    cases x with
    | true => exact hb A env σ F1 H1 Q (R.mono g1.ex) g1.sub o1
    | false => exact OutB.here o1 g1.sub)
theorem st_or (ha : ST G d W tt b) (hb : ST G d W tu b') : ST G d W (tOr tt tu) (P.or b b') := fun A env σ F H Q R e o =>
  ha A env σ F H _ R e (Outg.bind o fun x v F1 H1 g1 rx o1 => by
    subst rx
    cases x with
    | false => exact hb A env σ F1 H1 Q (R.mono g1.ex) g1.sub o1
    | true => exact OutB.here o1 g1.sub)
theorem st_not (ha : ST G d W tt b) : ST G d W (tNot tt) (P.not b) := fun A env σ F H Q R e o =>
  ha A env σ F H _ R e (Outg.bind o fun x v F1 H1 g1 rx o1 => by
    subst rx
    exact OutB.here o1 g1.sub)
theorem se_andV (ha : SE G d W ta p) (hb : SE G d W tb q) : SE G d W (tAndV ta tb) (P.andV p q) := fun A env σ F H Q R e o =>
  ha A env σ F H _ R e (Outg.bind o fun x v F1 H1 g1 rx o1 => by
    obtain ⟨c, rfl, o2⟩ := Outg.boo rx o1
    refine ⟨c, rfl, ?_⟩
    cases c with
    | true => exact hb A env σ F1 H1 Q (R.mono g1.ex) g1.sub o2
    | false => exact Out.here o2 g1.sub rfl)
theorem se_orV (ha : SE G d W ta p) (hb : SE G d W tb q) : SE G d W (tOrV ta tb) (P.orV p q) := fun A env σ F H Q R e o =>
  ha A env σ F H _ R e (Outg.bind o fun x v F1 H1 g1 rx o1 => by
    obtain ⟨c, rfl, o2⟩ := Outg.boo rx o1
    refine ⟨c, rfl, ?_⟩
    cases c with
    | false => exact hb A env σ F1 H1 Q (R.mono g1.ex) g1.sub o2
    | true => exact Out.here o2 g1.sub rfl)
theorem se_notV (ha : SE G d W ta p) : SE G d W (tNotV ta) (P.notV p) := fun A env σ F H Q R e o =>
  ha A env σ F H _ R e (Outg.bind o fun x v F1 H1 g1 rx o1 => by
    obtain ⟨c, rfl, o2⟩ := Outg.boo rx o1
    exact ⟨c, rfl, Out.here o2 g1.sub rfl⟩)
theorem se_if (ht : ST G d W tt b) (ha : SE G d W ta p) (hb : SE G d W tb q) : SE G d W (tIf tt ta tb) (P.ite b p q) := fun A env σ F H Q R e o =>
  ht A env σ F H _ R e (Outg.bind o fun x v F1 H1 g1 rx o1 => by
    subst rx
    cases x with
    | true => exact ha A env σ F1 H1 Q (R.mono g1.ex) g1.sub o1
    | false => exact hb A env σ F1 H1 Q (R.mono g1.ex) g1.sub o1)
/-- an operation within a way -/
theorem OpS.bind {α β : Type} (hr : OpS G r1 f) {A : Al} {F H : Hp} {E : XK} {R' : Hp → α → β → Prop} {Q : VK} {Q' : β → Hp → Prop} {x y : T} {v w : V} {k : T → Res α} (ok : AOk A F) (e : Ex F H) (rx : rep G A F x v) (ry : rep G A F y w)
    (o : Outg G A F H R' Q' E ((Res.of (f x y)).bind k)) (h : ∀ z u F1 H1, Grow F H F1 H1 → rep G A F1 z u → Outg G A F1 H1 R' Q' E (k z) → Q u H1) : r1 v w H Q :=
  hr A F H Q E x y v w ok e rx ry (Outg.bind o h)
theorem se_chain (h1 : OpS G r1 f) (h2 : OpS G r2 g) (ha : SE G d W ta p) (hb : SE G d W tb q) (hc : SE G d W tc r) : SE G d W (tChain r1 r2 ta tb tc) (P.chain f g p q r) := fun A env σ F H Q R e o =>
  ha A env σ F H _ R e (Outg.bind o fun x v F1 H1 g1 rx o1 => hb A env σ F1 H1 _ (R.mono g1.ex) g1.sub (Outg.bind o1 fun y w F2 H2 g2 ry o2 =>
    have R2 := (R.mono g1.ex).mono g2.ex
    h1.bind R2.ok g2.sub (rx.mono g2.ex) ry o2 fun z u F3 H3 g3 rz o3 => by
      obtain ⟨c, rfl, o4⟩ := Outg.boo rz o3
      refine ⟨c, rfl, ?_⟩
      cases c with
      | false => exact Out.here o4 g3.sub rfl
      | true => exact hc A env σ F3 H3 _ (R2.mono g3.ex) g3.sub (Outg.bind o4 fun z2 u2 F4 H4 g4 rz2 o5 => h2 A F4 H4 Q _ y z2 w u2 ((R2.mono g3.ex).mono g4.ex).ok g4.sub ((ry.mono g3.ex).mono g4.ex) rz2 o5)))
theorem sa_nil : SA G d W tNil P.nil := fun A env σ F H Q R e o => OutA.here o e rfl
theorem sa_cons (ha : SE G d W ta p) (hl : SA G d W tl a) : SA G d W (tCons ta tl) (P.cons p a) := fun A env σ F H Q R e o =>
  ha A env σ F H _ R e (Outg.bind o fun x v F1 H1 g1 rx o1 => hl A env σ F1 H1 _ (R.mono g1.ex) g1.sub (Outg.bind o1 fun xs vs F2 H2 g2 rs o2 =>
    OutA.here o2 g2.sub ⟨v, vs, rfl, rx.mono g2.ex, rs⟩))
theorem se_tup (hl : SA G d W tl a) : SE G d W (tTup tl) (P.tup a) := fun A env σ F H Q R e o =>
  hl A env σ F H _ R e (Outg.bind o fun xs vs F1 H1 g1 rs o1 => by
    by_cases c : lfit xs.length = true
    · rw [if_pos c] at o1
      exact ⟨by rw [rs.length]; exact of_decide_eq_true c, Out.tup o1 g1.sub rs⟩
    · rw [if_neg c] at o1
      exact o1.elim)
theorem se_lst (hl : SA G d W tl a) : SE G d W (tLst tl) (P.lst a) := fun A env σ F H Q R e o =>
  hl A env σ F H _ R e (Outg.bind o fun xs vs F1 H1 g1 rs o1 => by
    by_cases c : lfit xs.length = true
    · rw [if_pos c] at o1
      exact ⟨by rw [rs.length]; exact of_decide_eq_true c, Out.lst o1 (R.ok.mono g1.ex) g1.sub rs⟩
    · rw [if_neg c] at o1
      exact o1.elim)
end

/-! ### calls -/
/-- a def's promise: its function of trees; n: how many parameters. The owners of changeable things stand above (their depth is less) -/
def spT (G : Ge) (n : Nat) (f : Nat → List T → Res T) : Sp := fun vs H Q E => vs.length = n ∧ ∃ d A F ts, AOk A F ∧ (∀ g a, A g = some a → g.1 < d) ∧ Ex F H ∧ reps G A F ts vs ∧ Out G A F H Q E (f d ts)
def CRs (G : Ge) (n : Nat) (r : List V → Hp → VK → Prop) (f : List T → Res T) : Prop := ∀ A F H Q E ts vs, AOk A F → Ex F H → reps G A F ts vs → Out G A F H Q E (f ts) → r vs H Q
section
variable {G : Ge} {d : Nat} {W : WX} {tl : TA} {a : P.Ax}
theorem se_callB {r : List V → Hp → VK → Prop} {f : List T → Res T} (hr : CRs G 0 r f) (hl : SA G d W tl a) : SE G d W (tCB r tl) (P.call f a) := fun A env σ F H Q R e o =>
  hl A env σ F H _ R e (Outg.bind o fun xs vs F1 H1 g1 rs o1 => hr A F1 H1 Q _ xs vs (R.ok.mono g1.ex) g1.sub rs o1)
theorem se_call {E : L2.St → XK} {n : Nat} {f : Nat → List T → Res T} (hE : E = WE W) (hn : ∀ env xs, a env = .ok xs → xs.length = n) (hl : SA G d W tl a) : SE G d W (tCallS (spT G n f) E tl) (P.call (f (d + 1)) a) := fun A env σ F H Q R e o => by
  subst hE
  have o' : Out G A F H Q (WE W σ) ((a env).bind (f (d + 1))) := o
  have hn' := hn env
  refine hl A env σ F H _ R e ?_
  cases q : a env with
  | er e => rw [q] at o'; exact o'
  | stuck => rw [q] at o'; exact o'
  | ok xs =>
    rw [q] at o'
    exact fun vs F1 H1 g1 rs => ⟨by rw [rs.length]; exact hn' xs q, d + 1, A, F1, xs, R.ok.mono g1.ex, fun g a z => Nat.lt_succ_of_le (R.dep g a z), g1.sub, rs, Outg.step g1 o'⟩
end
end Py

set_option Elab.async false
set_option linter.all false
set_option maxRecDepth 100000
set_option maxHeartbeats 4000000
namespace Py
open PySem L2 PySem.Spec PyProof.Rows Evl

/-! ### statements -/
inductive RS where
  | nx (env : Fv)
  | rt (t : T)
  | br (env : Fv)
  | ct (env : Fv)
  | er (e : Exn) (env : Fv)
  | stuck
abbrev Sx := Fv → RS
/-- an expression first; what it raises leaves the frame as it was -/
def Res.then_ {α : Type} (m : Res α) (env : Fv) (k : α → RS) : RS := match m with
  | .ok a => k a
  | .er e => .er e env
  | .stuck => .stuck
@[simp] theorem Res.then_ok {α : Type} (a : α) (env : Fv) (k : α → RS) : Res.then_ (.ok a) env k = k a := nrfl rfl
@[simp] theorem Res.then_er {α : Type} (e : Exn) (env : Fv) (k : α → RS) : Res.then_ (.er e) env k = .er e env := nrfl rfl
@[simp] theorem Res.then_stuck {α : Type} (env : Fv) (k : α → RS) : Res.then_ (.stuck) env k = .stuck := nrfl rfl
/-- the frame without its changeable things -/
def Sl.hide : Option Sl → Option Sl
  | some (.fz t) => some (.fz t)
  | _ => none
def hide (env : Fv) : Fv := env.map Sl.hide
def flat : T → Bool
  | .non => true
  | .bl _ => true
  | .int _ => true
  | .str _ => true
  | _ => false
/-- a changeable thing of a frame -/
def OwnO : Option HO → Prop
  | some (.lst _) => True
  | some (.ins _ _ _) => True
  | some (.dT _) => True
  | _ => False
theorem OwnO.ne {o : Option HO} (h : OwnO o) : o ≠ none := fun z => by
  rw [z] at h
  exact h
theorem OwnO.mtb {o : Option HO} (h : OwnO o) : Mtb o := by
  cases o with
  | none => exact h.elim
  | some u =>
    refine ⟨u, rfl, fun xs z => ?_⟩
    subst z
    exact h
theorem OwnO.keep {H H1 : Hp} {a : Addr} (h : OwnO (H a)) (e : Ex H H1) : OwnO (H1 a) := by
  cases q : H a with
  | none => exact absurd q h.ne
  | some o =>
    rw [e _ _ q, ← q]
    exact h
def xflat (e : Exn) : Bool := e.ts.all flat
/-- over the whole frame: what is raised holds flat things -/
def Res.thenX {α : Type} (m : Res α) (env : Fv) (k : α → RS) : RS := match m with
  | .ok a => k a
  | .er e => if xflat e = true then .er e env else .stuck
  | .stuck => .stuck
@[simp] theorem Res.thenX_ok {α : Type} (a : α) (env : Fv) (k : α → RS) : Res.thenX (.ok a) env k = k a := nrfl rfl
@[simp] theorem Res.thenX_er {α : Type} (e : Exn) (env : Fv) (k : α → RS) : Res.thenX (.er e) env k = if xflat e = true then .er e env else .stuck := nrfl rfl
@[simp] theorem Res.thenX_stuck {α : Type} (env : Fv) (k : α → RS) : Res.thenX (.stuck) env k = .stuck := nrfl rfl
structure Rel (G : Ge) (d : Nat) (A0 : Al) (F0 H0 : Hp) (A : Al) (env : Fv) (σ : L2.St) (F H : Hp) : Prop where
  ok0 : AOk A0 F0
  dep0 : ∀ g a, A0 g = some a → g.1 < d
  len : env.length = σ.length
  agree : ∀ g, g.1 < d → A g = A0 g
  dep : ∀ g a, A g = some a → g.1 ≤ d
  inj : ∀ g g' a, A g = some a → A g' = some a → g = g'
  own : ∀ (i : Nat) (a : Addr), A (d, i) = some a → F a = none ∧ H0 a = none ∧ OwnO (H a)
  exF : Ex F0 F
  sub : Ex F H
  keep : Ex H0 H
  sep : ∀ a, F0 a = none → Mtb (H0 a) → F a = none
  fz : ∀ (i : Nat) (t : T), env[i]? = some (some (.fz t)) → ∃ v, σ[i]? = some (some v) ∧ rep G A0 F t v
  ol : ∀ (i : Nat) (ts : List T), env[i]? = some (some (.ol ts)) → ∃ p vs, σ[i]? = some (some (.ref p)) ∧ A (d, i) = some p ∧ H p = some (.lst vs) ∧ reps G A0 F ts vs
  oi : ∀ (i : Nat) (c : Nat) (ns : List Str) (ts : List T), env[i]? = some (some (.oi c ns ts)) → ∃ p dx vs, σ[i]? = some (some (.ref p)) ∧ A (d, i) = some p ∧ H p = some (.ins (G.cl c) dx (ns.zip vs)) ∧ vs.length = ns.length ∧ reps G A0 F ts vs
  od : ∀ (i : Nat) (ks : List (List L2.Key)) (ts : List T), env[i]? = some (some (.od ks ts)) → ∃ p vs, σ[i]? = some (some (.ref p)) ∧ A (d, i) = some p ∧ H p = some (.dT (ks.zip vs)) ∧ vs.length = ks.length ∧ reps G A0 F ts vs
  pin : ∀ a, G.c.pin = some (d, a) → A (d, 0) = some a
section
variable {G : Ge} {d : Nat} {A0 A A' : Al} {F0 H0 F H F1 H1 : Hp} {env : Fv} {σ : L2.St} {t : T} {v : V}
mutual
theorem rep.weak (h1 : ∀ g a, A g = some a → A' g = some a) (h2 : ∀ g a, A' g = some a → A g = some a ∨ F a = none) : ∀ {t : T} {v : V}, rep G A F t v → rep G A' F t v
  | .non, _, h => h
  | .bl _, _, h => h
  | .int _, _, h => h
  | .str _, _, h => h
  | .lst g _, _, ⟨a, vs, e1, e2, e3, e4⟩ => ⟨a, vs, e1, e2, tag_weak h1 h2 e2 e3, reps.weak h1 h2 e4⟩
  | .tup _, _, ⟨a, vs, e1, e2, e4⟩ => ⟨a, vs, e1, e2, reps.weak h1 h2 e4⟩
  | .ro _, _, ⟨a, vs, e1, e2, e4⟩ => ⟨a, vs, e1, e2, reps.weak h1 h2 e4⟩
  | .ins g _ _ _, _, ⟨a, dx, vs, e1, e2, e3, e5, e4⟩ => ⟨a, dx, vs, e1, e2, e3, tag_weak h1 h2 e2 e5, reps.weak h1 h2 e4⟩
  | .dct g _ _, _, ⟨a, vs, e1, e2, e3, e5, e4⟩ => let ⟨_, z⟩ := rd_some e2; ⟨a, vs, e1, e2, e3, tag_weak h1 h2 z e5, reps.weak h1 h2 e4⟩
  | .exn _ _ _, _, ⟨a, cls, dx, e1, e2, e3, e4⟩ => ⟨a, cls, dx, e1, e2, e3, match e4 with
    | .inl z => .inl z
    | .inr ⟨dd, vs, k1, k2, k3, k4⟩ => .inr ⟨dd, vs, k1, k2, k3, reps.weak h1 h2 k4⟩⟩
theorem reps.weak (h1 : ∀ g a, A g = some a → A' g = some a) (h2 : ∀ g a, A' g = some a → A g = some a ∨ F a = none) : ∀ {ts : List T} {vs : List V}, reps G A F ts vs → reps G A' F ts vs
  | [], _, h => h
  | _ :: _, _, ⟨v, ws, e1, e2, e3⟩ => ⟨v, ws, e1, rep.weak h1 h2 e2, reps.weak h1 h2 e3⟩
theorem tag_weak (h1 : ∀ g a, A g = some a → A' g = some a) (h2 : ∀ g a, A' g = some a → A g = some a ∨ F a = none) {g : Option Tag} {a : Addr} {o : HO} (e2 : F a = some o) (h : tagOk A g a) : tagOk A' g a := match g, h with
  | none, h => fun g z => (h2 g a z).elim (h g) fun y => by rw [y] at e2; cases e2
  | some g, h => h1 g a h
end
open Classical in
/-- the frozen part and the frame's own things -/
noncomputable def plus (d : Nat) (A : Al) (F H : Hp) : Hp := fun a => if ∃ i, A (d, i) = some a then H a else F a
open Classical in
/-- .. without them -/
noncomputable def minus (d : Nat) (A : Al) (F : Hp) : Hp := fun a => if ∃ i, A (d, i) = some a then none else F a
theorem plus_own {i : Nat} {a : Addr} (h : A (d, i) = some a) : plus d A F H a = H a := if_pos ⟨i, h⟩
theorem plus_not {a : Addr} (h : ∀ i, A (d, i) ≠ some a) : plus d A F H a = F a := if_neg fun ⟨i, z⟩ => h i z
theorem minus_own {i : Nat} {a : Addr} (h : A (d, i) = some a) : minus d A F a = none := if_pos ⟨i, h⟩
theorem minus_not {a : Addr} (h : ∀ i, A (d, i) ≠ some a) : minus d A F a = F a := if_neg fun ⟨i, z⟩ => h i z
section
variable (R : Rel G d A0 F0 H0 A env σ F H)
include R
theorem Rel.notOwn {a : Addr} {o : HO} (h : F a = some o) : ∀ i, A (d, i) ≠ some a := fun i z => by
  rw [(R.own i a z).1] at h
  cases h
theorem Rel.exP : Ex F (plus d A F H) := fun a o h => by
  rw [plus_not (R.notOwn h)]
  exact h
theorem Rel.subP : Ex (plus d A F H) H := fun a o h => by
  by_cases c : ∃ i, A (d, i) = some a
  · obtain ⟨i, c⟩ := c
    rw [plus_own c] at h
    exact h
  · rw [plus_not fun i z => c ⟨i, z⟩] at h
    exact R.sub a o h
theorem Rel.dep1 {g : Tag} {a : Addr} (h : A g = some a) : A0 g = some a ∨ ∃ i, g = (d, i) := by
  rcases Nat.lt_or_eq_of_le (R.dep g a h) with z | z
  · exact .inl (by rw [← R.agree g z]; exact h)
  · exact .inr ⟨g.2, by rw [← z]⟩
theorem Rel.up {t : T} {v : V} (h : rep G A0 F t v) : rep G A (plus d A F H) t v :=
  (h.weak (A' := A) (fun g a z => by rw [R.agree g (R.dep0 g a z)]; exact z) fun g a z => (R.dep1 z).imp id fun ⟨i, e⟩ => (R.own i a (by rw [← e]; exact z)).1).mono R.exP
theorem Rel.ups {t : List T} {v : List V} (h : reps G A0 F t v) : reps G A (plus d A F H) t v :=
  (h.weak (A' := A) (fun g a z => by rw [R.agree g (R.dep0 g a z)]; exact z) fun g a z => (R.dep1 z).imp id fun ⟨i, e⟩ => (R.own i a (by rw [← e]; exact z)).1).mono R.exP
/-- what an expression sees of the whole frame -/
theorem Rel.re : RE G d A env σ (plus d A F H) where
  ok := ⟨R.inj, fun g a z => by
    rcases R.dep1 z with y | ⟨i, e⟩
    · cases q : F0 a with
      | none => exact absurd q (R.ok0.al g a y)
      | some o =>
        rw [(R.exF.trans R.exP) a o q]
        exact fun y => nomatch y
    · subst e
      rw [plus_own z]
      exact (R.own i a z).2.2.ne⟩
  len := R.len
  dep := R.dep
  slots := fun i t h => by
    unfold rd at h
    split at h
    · rename_i u e
      cases h
      obtain ⟨v, h1, h2⟩ := R.fz i _ e
      exact ⟨v, h1, R.up h2⟩
    · rename_i ts e
      cases h
      obtain ⟨p, vs, h1, h2, h3, h4⟩ := R.ol i _ e
      exact ⟨_, h1, p, vs, rfl, by rw [plus_own h2]; exact h3, h2, R.ups h4⟩
    · rename_i c ns ts e
      cases h
      obtain ⟨p, dx, vs, h1, h2, h3, h5, h4⟩ := R.oi i _ _ _ e
      exact ⟨_, h1, p, dx, vs, rfl, by rw [plus_own h2]; exact h3, h5, h2, R.ups h4⟩
    · rename_i ks ts e
      cases h
      obtain ⟨p, vs, h1, h2, h3, h5, h4⟩ := R.od i _ _ e
      exact ⟨_, h1, p, vs, rfl, .inl (by rw [plus_own h2]; exact h3), h5, h2, R.ups h4⟩
    · cases h
theorem hide_get {env : Fv} {i : Nat} {s : Sl} (h : (hide env)[i]? = some (some s)) : ∃ t, s = .fz t ∧ env[i]? = some (some (.fz t)) := by
  unfold hide at h
  rw [List.getElem?_map] at h
  cases q : env[i]? with
  | none => rw [q] at h; cases h
  | some o =>
    rw [q] at h
    cases o with
    | none => cases h
    | some s' =>
      cases s' with
      | fz t => cases h; exact ⟨t, rfl, rfl⟩
      | ol ts => cases h
      | oi c ns ts => cases h
      | od ks ts => cases h
/-- .. of the frozen part alone -/
theorem Rel.reH : RE G d A0 (hide env) σ F where
  ok := R.ok0.mono R.exF
  len := by
    unfold hide
    rw [List.length_map]
    exact R.len
  dep := fun g a z => Nat.le_of_lt (R.dep0 g a z)
  slots := fun i t h => by
    unfold rd at h
    split at h
    · rename_i u e
      cases h
      obtain ⟨t, e1, e2⟩ := hide_get R e
      cases e1
      exact R.fz i _ e2
    · rename_i ts e
      obtain ⟨t, e1, e2⟩ := hide_get R e
      cases e1
    · rename_i c ns ts e
      obtain ⟨t, e1, e2⟩ := hide_get R e
      cases e1
    · rename_i ks ts e
      obtain ⟨t, e1, e2⟩ := hide_get R e
      cases e1
    · cases h
/-- the frozen part grows -/
theorem Rel.grow (g : Grow F H F1 H1) : Rel G d A0 F0 H0 A env σ F1 H1 where
  ok0 := R.ok0
  dep0 := R.dep0
  len := R.len
  agree := R.agree
  dep := R.dep
  inj := R.inj
  own := fun i a z => by
    obtain ⟨h1, h2, h3⟩ := R.own i a z
    exact ⟨g.sep a h1 h3.mtb, h2, h3.keep g.keep⟩
  exF := R.exF.trans g.ex
  sub := g.sub
  keep := R.keep.trans g.keep
  sep := fun a h1 h2 => g.sep a (R.sep a h1 h2) (h2.keep R.keep)
  fz := fun i t e => let ⟨v, h1, h2⟩ := R.fz i t e; ⟨v, h1, h2.mono g.ex⟩
  ol := fun i ts e => let ⟨p, vs, h1, h2, h3, h4⟩ := R.ol i ts e; ⟨p, vs, h1, h2, g.keep _ _ h3, h4.mono g.ex⟩
  oi := fun i c ns ts e => let ⟨p, dx, vs, h1, h2, h3, h5, h4⟩ := R.oi i c ns ts e; ⟨p, dx, vs, h1, h2, g.keep _ _ h3, h5, h4.mono g.ex⟩
  od := fun i ks ts e => let ⟨p, vs, h1, h2, h3, h5, h4⟩ := R.od i ks ts e; ⟨p, vs, h1, h2, g.keep _ _ h3, h5, h4.mono g.ex⟩
  pin := R.pin
/-- behind an expression over the whole frame -/
theorem Rel.low (g : Grow (plus d A F H) H F1 H1) : Grow F H (minus d A F1) H1 where
  ex := fun a o h => by
    rw [minus_not (R.notOwn h)]
    exact g.ex a o (R.exP a o h)
  sub := fun a o h => by
    by_cases c : ∃ i, A (d, i) = some a
    · obtain ⟨i, c⟩ := c
      rw [minus_own c] at h
      cases h
    · rw [minus_not fun i z => c ⟨i, z⟩] at h
      exact g.sub a o h
  keep := g.keep
  sep := fun a h1 h2 => by
    by_cases c : ∃ i, A (d, i) = some a
    · obtain ⟨i, c⟩ := c
      exact minus_own c
    · have c' : ∀ i, A (d, i) ≠ some a := fun i z => c ⟨i, z⟩
      rw [minus_not c']
      exact g.sep a (by rw [plus_not c']; exact h1) h2
/-- a slot set to a frozen thing -/
theorem Rel.set {i : Nat} (h : rep G A0 F t v) (hi : i < env.length) (hp : i = 0 → G.c.pin = none) : ∃ A', Rel G d A0 F0 H0 A' (env.set i (some (.fz t))) (σ.set i (some v)) F H := by
  refine ⟨fun g => if g = (d, i) then none else A g, R.ok0, R.dep0, by rw [List.length_set, List.length_set]; exact R.len, fun g z => ?_, fun g a z => ?_, fun g g' a z y => ?_, fun j a z => ?_, R.exF, R.sub, R.keep, R.sep, fun j u e => ?_, fun j u e => ?_, fun j cc ns u e => ?_, fun j kk u e => ?_, fun a z => ?_⟩
  · show (if g = (d, i) then none else A g) = _
    rw [if_neg (fun y => by rw [y] at z; exact absurd z (Nat.lt_irrefl _))]
    exact R.agree g z
  · have z' : (if g = (d, i) then none else A g) = some a := z
    by_cases c : g = (d, i)
    · rw [if_pos c] at z'; cases z'
    · rw [if_neg c] at z'; exact R.dep g a z'
  · have z' : (if g = (d, i) then none else A g) = some a := z
    have y' : (if g' = (d, i) then none else A g') = some a := y
    by_cases c : g = (d, i)
    · rw [if_pos c] at z'; cases z'
    · by_cases c' : g' = (d, i)
      · rw [if_pos c'] at y'; cases y'
      · rw [if_neg c] at z'; rw [if_neg c'] at y'; exact R.inj g g' a z' y'
  · have z' : (if (d, j) = (d, i) then none else A (d, j)) = some a := z
    by_cases c : (d, j) = (d, i)
    · rw [if_pos c] at z'; cases z'
    · rw [if_neg c] at z'; exact R.own j a z'
  · by_cases c : i = j
    · subst c
      rw [List.getElem?_set_self hi] at e
      cases e
      exact ⟨v, List.getElem?_set_self (by rw [← R.len]; exact hi), h⟩
    · rw [List.getElem?_set_ne c] at e ⊢
      exact R.fz j u e
  · by_cases c : i = j
    · subst c
      rw [List.getElem?_set_self hi] at e
      cases e
    · rw [List.getElem?_set_ne c] at e ⊢
      obtain ⟨p, vs, h1, h2, h3⟩ := R.ol j u e
      refine ⟨p, vs, h1, ?_, h3⟩
      show (if (d, j) = (d, i) then none else A (d, j)) = some p
      rw [if_neg (fun y => c (Prod.mk.inj y).2.symm)]
      exact h2
  · by_cases c : i = j
    · subst c
      rw [List.getElem?_set_self hi] at e
      cases e
    · rw [List.getElem?_set_ne c] at e ⊢
      obtain ⟨p, dx, vs, h1, h2, h3⟩ := R.oi j cc ns u e
      refine ⟨p, dx, vs, h1, ?_, h3⟩
      show (if (d, j) = (d, i) then none else A (d, j)) = some p
      rw [if_neg (fun y => c (Prod.mk.inj y).2.symm)]
      exact h2
  · by_cases c : i = j
    · subst c
      rw [List.getElem?_set_self hi] at e
      cases e
    · rw [List.getElem?_set_ne c] at e ⊢
      obtain ⟨p, vs, h1, h2, h3⟩ := R.od j kk u e
      refine ⟨p, vs, h1, ?_, h3⟩
      show (if (d, j) = (d, i) then none else A (d, j)) = some p
      rw [if_neg (fun y => c (Prod.mk.inj y).2.symm)]
      exact h2
  · rw [if_neg (fun y => by rw [hp (Prod.mk.inj y).2.symm] at z; cases z)]
    exact R.pin a z
end
end
end Py

set_option Elab.async false
set_option linter.all false
set_option maxRecDepth 100000
set_option maxHeartbeats 4000000
namespace Py
open PySem L2 PySem.Spec PyProof.Rows Evl

/-! ### what a statement does to the frame -/
namespace S
def asg (i : Nat) (p : P.Ex1) : Sx := fun env => (p (hide env)).then_ env fun t => if i < env.length then .nx (env.set i (some (.fz t))) else .stuck
def asgX (i : Nat) (p : P.Ex1) : Sx := fun env => (p env).thenX env fun t => if flat t = true ∧ i < env.length then .nx (env.set i (some (.fz t))) else .stuck
def new (i : Nat) (p : Fv → Res (List T)) : Sx := fun env => (p (hide env)).then_ env fun ts => if i < env.length then .nx (env.set i (some (.ol ts))) else .stuck
def frz (i : Nat) (s : Sx) : Sx := fun env => match env[i]? with
  | some (some (.ol ts)) => s (env.set i (some (.fz (.lst none ts))))
  | some (some (.oi c ns ts)) => s (env.set i (some (.fz (.ins none c ns ts))))
  | some (some (.od ks ts)) => s (env.set i (some (.fz (.dct none ks ts))))
  | _ => s env
def app (i : Nat) (p : P.Ex1) : Sx := fun env => match env[i]? with
  | some (some (.ol ts)) => (p (hide env)).then_ env fun t => if ts.length < sizeLine then .nx (env.set i (some (.ol (ts ++ [t])))) else .stuck
  | _ => .stuck
def appX (i : Nat) (p : P.Ex1) : Sx := fun env => match env[i]? with
  | some (some (.ol ts)) => (p env).thenX env fun t => if flat t = true ∧ ts.length < sizeLine then .nx (env.set i (some (.ol (ts ++ [t])))) else .stuck
  | _ => .stuck
def setX (i : Nat) (k p : P.Ex1) : Sx := fun env => match env[i]? with
  | some (some (.ol ts)) => (p env).thenX env fun t => (k env).thenX env fun j => (match j with
    | .int z => (match ixN ts.length z with
      | some m => if flat t = true then .nx (env.set i (some (.ol (ts.set m t)))) else .stuck
      | none => .stuck)
    | _ => .stuck)
  | _ => .stuck
def seq (s u : Sx) : Sx := fun env => match s env with
  | .nx env => u env
  | r => r
def skip : Sx := fun env => .nx env
def expr (p : P.Ex1) : Sx := fun env => (p env).thenX env fun _ => .nx env
def ret (p : P.Ex1) : Sx := fun env => (p (hide env)).then_ env fun t => .rt t
def retX (p : P.Ex1) : Sx := fun env => (p env).thenX env fun t => if flat t = true then .rt t else .stuck
def retN : Sx := fun _ => .rt .non
def brk : Sx := fun env => .br env
def cnt : Sx := fun env => .ct env
def ite (t : P.Bx) (s u : Sx) : Sx := fun env => (t env).thenX env fun b => if b = true then s env else u env
/-- a for: one turn an item; tg: what the target does -/
def turns (tg : T → Fv → Option Fv) (body : Sx) : List T → Sx
  | [] => fun env => .nx env
  | t :: ts => fun env => match tg t env with
    | some env1 => (match body env1 with
      | .nx env => turns tg body ts env
      | .ct env => turns tg body ts env
      | .br env => .nx env
      | r => r)
    | none => .stuck
def for_ (tg : T → Fv → Option Fv) (p : Fv → Res (List T)) (body : Sx) : Sx := fun env => (p (hide env)).then_ env fun ts => turns tg body ts env
def forX (tg : T → Fv → Option Fv) (p : Fv → Res (List T)) (body : Sx) : Sx := fun env => (p env).thenX env fun ts => if ts.all flat = true then turns tg body ts env else .stuck
/-- targets -/
def tName (i : Nat) : T → Fv → Option Fv := fun t env => if i < env.length then some (env.set i (some (.fz t))) else none
def tNames : List (T → Fv → Option Fv) → List T → Fv → Option Fv
  | [], [], env => some env
  | g :: gs, t :: ts, env => (g t env).bind fun env => tNames gs ts env
  | _, _, _ => none
def tTup (gs : List (T → Fv → Option Fv)) : T → Fv → Option Fv := fun t env => match t with
  | .tup ts => tNames gs ts env
  | _ => none
/-- a target that is more than a name -/
def unp (tg : T → Fv → Option Fv) (p : P.Ex1) : Sx := fun env => (p (hide env)).then_ env fun t => match tg t env with
  | some env => .nx env
  | none => .stuck
def while_ (t : P.Bx) (body : Sx) : Nat → Sx
  | 0 => fun _ => .stuck
  | n + 1 => fun env => (t env).thenX env fun b => if b = true then (match body env with
    | .nx env => while_ t body n env
    | .ct env => while_ t body n env
    | .br env => .nx env
    | r => r) else .nx env
end S

def OutS (G : Ge) (d : Nat) (A0 : Al) (F0 H0 : Hp) (W : WX) (D : Ends) : RS → Prop
  | .nx env => ∀ A σ F H, Rel G d A0 F0 H0 A env σ F H → D.nx σ H
  | .br env => ∀ A σ F H, Rel G d A0 F0 H0 A env σ F H → D.bk σ H
  | .ct env => ∀ A σ F H, Rel G d A0 F0 H0 A env σ F H → D.ct σ H
  | .rt t => ∀ v F H, Grow F0 H0 F H → rep G A0 F t v → D.rt v H
  | .er e env => ∀ A σ F H dx, Rel G d A0 F0 H0 A env σ F H → xrep G A0 F e dx → W (.ref (G.cl e.c)) dx σ H
  | .stuck => False
def SS (G : Ge) (d : Nat) (W : WX) (ts : TS) (s : Sx) : Prop :=
  ∀ A0 F0 H0 A env σ F H D, Rel G d A0 F0 H0 A env σ F H → OutS G d A0 F0 H0 W D (s env) → ts D σ H

section
variable {G : Ge} {d : Nat} {W : WX} {A0 A : Al} {F0 H0 F H : Hp} {env : Fv} {σ : L2.St} {D : Ends}
variable {te tk : TE} {p q : P.Ex1} {tt : TT} {b : P.Bx} {ta : TA} {a : P.Ax} {t u : TS} {s s' : Sx} {i : Nat}
theorem Rel.growF (R : Rel G d A0 F0 H0 A env σ F H) : Grow F0 H0 F H := ⟨R.exF, R.sub, R.keep, R.sep⟩
/-- an expression of the frozen part, within a statement -/
theorem Rel.run (R : Rel G d A0 F0 H0 A env σ F H) (he : SE G d W te p) {k : T → RS} {Q : VK} (o : OutS G d A0 F0 H0 W D ((p (hide env)).then_ env k))
    (h : ∀ r v F1 H1, Rel G d A0 F0 H0 A env σ F1 H1 → rep G A0 F1 r v → OutS G d A0 F0 H0 W D (k r) → Q v H1) : te σ H Q := by
  refine he A0 (hide env) σ F H Q R.reH R.sub ?_
  cases z : p (hide env) with
  | ok r => rw [z] at o; exact fun v F1 H1 g r => h _ v F1 H1 (R.grow g) r o
  | er e => rw [z] at o; exact fun dx F1 H1 g x => o A σ F1 H1 dx (R.grow g) x
  | stuck => rw [z] at o; exact o
theorem Rel.runA (R : Rel G d A0 F0 H0 A env σ F H) (he : SA G d W ta a) {k : List T → RS} {Q : List V → Hp → Prop} (o : OutS G d A0 F0 H0 W D ((a (hide env)).then_ env k))
    (h : ∀ r v F1 H1, Rel G d A0 F0 H0 A env σ F1 H1 → reps G A0 F1 r v → OutS G d A0 F0 H0 W D (k r) → Q v H1) : ta σ H Q := by
  refine he A0 (hide env) σ F H Q R.reH R.sub ?_
  cases z : a (hide env) with
  | ok r => rw [z] at o; exact fun v F1 H1 g r => h _ v F1 H1 (R.grow g) r o
  | er e => rw [z] at o; exact fun dx F1 H1 g x => o A σ F1 H1 dx (R.grow g) x
  | stuck => rw [z] at o; exact o
theorem rep.flat {A A' : Al} {F F' : Hp} {t : T} {v : V} (f : flat t = true) (h : rep G A F t v) : rep G A' F' t v := by
  cases t <;> first | exact h | cases f
theorem reps.flatAll {A A' : Al} {F F' : Hp} : ∀ {ts : List T} {vs : List V}, ts.all Py.flat = true → reps G A F ts vs → reps G A' F' ts vs
  | [], _, _, h => h
  | t :: ts, _, f, ⟨v, ws, e1, e2, e3⟩ => by
    rw [List.all_cons] at f
    obtain ⟨f1, f2⟩ := band f
    exact ⟨v, ws, e1, rep.flat f1 e2, reps.flatAll f2 e3⟩
/-- what an expression of the whole frame hands on -/
theorem Rel.outX {α β : Type} {Rp : Hp → α → β → Prop} (R : Rel G d A0 F0 H0 A env σ F H) {m : Res α} {k : α → RS} {Q : β → Hp → Prop} (o : OutS G d A0 F0 H0 W D (m.thenX env k))
    (h : ∀ r v F1 H1, Rel G d A0 F0 H0 A env σ (minus d A F1) H1 → Rp F1 r v → OutS G d A0 F0 H0 W D (k r) → Q v H1) : Outg G A (plus d A F H) H Rp Q (WE W σ) m := by
  cases m with
  | ok r => exact fun v F1 H1 g r => h _ v _ H1 (R.grow (R.low g)) r o
  | er e =>
    by_cases fe : xflat e = true
    · have o' : OutS G d A0 F0 H0 W D (if xflat e = true then .er e env else .stuck) := o
      rw [if_pos fe] at o'
      refine fun dx F1 H1 g x => o' A σ _ H1 dx (R.grow (R.low g)) ?_
      rcases x with x | ⟨dd, vs, h1, h2, h3, h4⟩
      · exact .inl x
      · refine .inr ⟨dd, vs, h1, ?_, h3, reps.flatAll fe h4⟩
        rw [minus_not fun i y => ?_]
        · exact h2
        · -- an exception's dict is none of the frame's own things
          obtain ⟨y1, y2, y3⟩ := R.own i dd y
          cases y4 : H dd with
          | none => exact y3.ne y4
          | some o4 =>
            have y5 : plus d A F H dd = some o4 := by rw [plus_own y]; exact y4
            have y6 := g.ex _ _ y5
            rw [h2] at y6
            cases y6
            rw [y4] at y3
            exact y3
    · have o' : OutS G d A0 F0 H0 W D (if xflat e = true then .er e env else .stuck) := o
      rw [if_neg fe] at o'
      exact o'.elim
  | stuck => exact o
theorem Rel.runX (R : Rel G d A0 F0 H0 A env σ F H) (he : SE G d W te p) {k : T → RS} {Q : VK} (o : OutS G d A0 F0 H0 W D ((p env).thenX env k))
    (h : ∀ r v F1 H1, Rel G d A0 F0 H0 A env σ F1 H1 → (flat r = true → rep G A0 F1 r v) → OutS G d A0 F0 H0 W D (k r) → Q v H1) : te σ H Q :=
  he A env σ _ H Q R.re R.subP (R.outX o fun r v F1 H1 R1 r1 o1 => h r v _ H1 R1 (fun f => rep.flat f r1) o1)
theorem Rel.runXA (R : Rel G d A0 F0 H0 A env σ F H) (he : SA G d W ta a) {k : List T → RS} {Q : List V → Hp → Prop} (o : OutS G d A0 F0 H0 W D ((a env).thenX env k))
    (h : ∀ r v F1 H1, Rel G d A0 F0 H0 A env σ F1 H1 → (r.all flat = true → reps G A0 F1 r v) → OutS G d A0 F0 H0 W D (k r) → Q v H1) : ta σ H Q :=
  he A env σ _ H Q R.re R.subP (R.outX o fun r v F1 H1 R1 r1 o1 => h r v _ H1 R1 (fun f => reps.flatAll f r1) o1)
theorem Rel.runT (R : Rel G d A0 F0 H0 A env σ F H) (ht : ST G d W tt b) {k : Bool → RS} {Q : Bool → Hp → Prop} (o : OutS G d A0 F0 H0 W D ((b env).thenX env k))
    (h : ∀ r F1 H1, Rel G d A0 F0 H0 A env σ F1 H1 → OutS G d A0 F0 H0 W D (k r) → Q r H1) : tt σ H Q :=
  ht A env σ _ H Q R.re R.subP (R.outX o fun r v F1 H1 R1 r1 o1 => by
    subst r1
    exact h _ _ H1 R1 o1)

/-! ### the rules -/
theorem Rel.lt (R : Rel G d A0 F0 H0 A env σ F H) {i : Nat} (hi : i < env.length) : i < σ.length := by rw [← R.len]; exact hi
theorem OutS.of_if {c : Prop} [Decidable c] {r : RS} (o : OutS G d A0 F0 H0 W D (if c then r else .stuck)) : c ∧ OutS G d A0 F0 H0 W D r := by
  by_cases h : c
  · rw [if_pos h] at o
    exact ⟨h, o⟩
  · rw [if_neg h] at o
    exact o.elim
theorem ss_asg (he : SE G d W te p) (hp : i = 0 → G.c.pin = none) : SS G d W (tAsg te (gName i)) (S.asg i p) := fun A0 F0 H0 A env σ F H D R o =>
  R.run he o fun r v F1 H1 R1 r1 o1 => by
    obtain ⟨hi, o2⟩ := OutS.of_if o1
    obtain ⟨A', R2⟩ := R1.set r1 hi hp
    exact o2 A' _ F1 H1 R2
theorem ss_asgX (he : SE G d W te p) (hp : i = 0 → G.c.pin = none) : SS G d W (tAsg te (gName i)) (S.asgX i p) := fun A0 F0 H0 A env σ F H D R o =>
  R.runX he o fun r v F1 H1 R1 r1 o1 => by
    obtain ⟨⟨hf, hi⟩, o2⟩ := OutS.of_if o1
    obtain ⟨A', R2⟩ := R1.set (r1 hf) hi hp
    exact o2 A' _ F1 H1 R2
theorem ss_ret (he : SE G d W te p) : SS G d W (tRet te) (S.ret p) := fun A0 F0 H0 A env σ F H D R o =>
  R.run he o fun r v F1 H1 R1 r1 o1 => o1 v F1 H1 R1.growF r1
theorem ss_retX (he : SE G d W te p) : SS G d W (tRet te) (S.retX p) := fun A0 F0 H0 A env σ F H D R o =>
  R.runX he o fun r v F1 H1 R1 r1 o1 => by
    obtain ⟨hf, o2⟩ := OutS.of_if o1
    exact o2 v F1 H1 R1.growF (r1 hf)
theorem ss_retN : SS G d W tRetN S.retN := fun A0 F0 H0 A env σ F H D R o => o .non F H R.growF rfl
theorem ss_brk : SS G d W tBreak S.brk := fun A0 F0 H0 A env σ F H D R o => o A σ F H R
theorem ss_cnt : SS G d W tCont S.cnt := fun A0 F0 H0 A env σ F H D R o => o A σ F H R
theorem ss_skip : SS G d W tNext S.skip := fun A0 F0 H0 A env σ F H D R o => o A σ F H R
theorem ss_expr (he : SE G d W te p) : SS G d W (tDrop te) (S.expr p) := fun A0 F0 H0 A env σ F H D R o =>
  R.runX he o fun r v F1 H1 R1 r1 o1 => o1 A σ F1 H1 R1
theorem ss_if (ht : ST G d W tt b) (h1 : SS G d W t s) (h2 : SS G d W u s') : SS G d W (tIfS tt t u) (S.ite b s s') := fun A0 F0 H0 A env σ F H D R o =>
  R.runT ht o fun r F1 H1 R1 o1 => by
    cases r with
    | true =>
      show t D σ H1
      exact h1 A0 F0 H0 A env σ F1 H1 D R1 o1
    | false =>
      show u D σ H1
      exact h2 A0 F0 H0 A env σ F1 H1 D R1 o1
/-- what follows is asked behind -/
theorem OutS.next {D' : Ends} {m : RS} (h : match m with | .nx env => (∀ A σ F H, Rel G d A0 F0 H0 A env σ F H → D'.nx σ H) | r => OutS G d A0 F0 H0 W D r) (hb : D'.bk = D.bk) (hc : D'.ct = D.ct) (hr : D'.rt = D.rt) : OutS G d A0 F0 H0 W D' m := by
  cases m with
  | nx env => exact h
  | rt t => exact fun v F H g r => by rw [hr]; exact h v F H g r
  | br env => exact fun A σ F H R => by rw [hb]; exact h A σ F H R
  | ct env => exact fun A σ F H R => by rw [hc]; exact h A σ F H R
  | er e env => exact h
  | stuck => exact h
theorem ss_seq (h1 : SS G d W t s) (h2 : SS G d W u s') : SS G d W (tSeq t u) (S.seq s s') := fun A0 F0 H0 A env σ F H D R o =>
  h1 A0 F0 H0 A env σ F H _ R (by
    have o' : OutS G d A0 F0 H0 W D (match s env with | .nx env => s' env | r => r) := o
    refine OutS.next (D := D) ?_ rfl rfl rfl
    cases z : s env with
    | nx env1 => rw [z] at o'; exact fun A σ F H R => h2 A0 F0 H0 A env1 σ F H D R o'
    | rt t => rw [z] at o'; exact o'
    | br env => rw [z] at o'; exact o'
    | ct env => rw [z] at o'; exact o'
    | er e env => rw [z] at o'; exact o'
    | stuck => rw [z] at o'; exact o')
theorem ss_never : SS G d W tNever (fun _ => .stuck) := fun A0 F0 H0 A env σ F H D R o => o.elim
end
end Py

set_option Elab.async false
set_option linter.all false
set_option maxRecDepth 100000
set_option maxHeartbeats 4000000
namespace Py
open PySem L2 PySem.Spec PyProof.Rows Evl

section
variable {G : Ge} {d : Nat} {W : WX} {A0 A : Al} {F0 H0 F H F1 H1 : Hp} {env : Fv} {σ : L2.St} {D : Ends}
variable {te tk : TE} {p q : P.Ex1} {tt : TT} {b : P.Bx} {ta : TA} {a : P.Ax} {t u : TS} {s s' : Sx} {i : Nat}
/-! ### a new list of the frame's own -/
def SN (G : Ge) (d : Nat) (W : WX) (te : TE) (p : Fv → Res (List T)) : Prop :=
  ∀ A env σ F H (Q : VK), RE G d A env σ F → Ex F H → Outg G A F H (fun F1 (ts : List T) (b : Addr × List V) => reps G A F1 ts b.2 ∧ F1 b.1 = none) (fun b H1 => H b.1 = none → H1 b.1 = some (.lst b.2) → Q (.ref b.1) H1) (WE W σ) (p env) → te σ H Q
def lfits (a : P.Ax) : P.Ax := fun env => (a env).bind fun xs => if lfit xs.length = true then .ok xs else .stuck
theorem sn_lst (hl : SA G d W ta a) : SN G d W (tLst ta) (lfits a) := fun A env σ F H Q R e o =>
  hl A env σ F H _ R e (by
    have o' : Outg G A F H (fun F1 (ts : List T) (b : Addr × List V) => reps G A F1 ts b.2 ∧ F1 b.1 = none) (fun b H1 => H b.1 = none → H1 b.1 = some (.lst b.2) → Q (.ref b.1) H1) (WE W σ) ((a env).bind fun xs => if lfit xs.length = true then .ok xs else .stuck) := o
    cases z : a env with
    | er e => rw [z] at o'; exact o'
    | stuck => rw [z] at o'; exact o'
    | ok xs =>
      rw [z] at o'
      intro vs F1 H1 g1 rs
      have o1 : Outg G A F H (fun F1 (ts : List T) (b : Addr × List V) => reps G A F1 ts b.2 ∧ F1 b.1 = none) (fun b H1 => H b.1 = none → H1 b.1 = some (.lst b.2) → Q (.ref b.1) H1) (WE W σ) (if lfit xs.length = true then .ok xs else .stuck) := o'
      by_cases c : lfit xs.length = true
      · rw [if_pos c] at o1
        refine ⟨by rw [rs.length]; exact of_decide_eq_true c, fun pa hp => ?_⟩
        exact o1 (pa, vs) F1 (upd H1 pa (.lst vs)) (g1.trans (Grow.junk g1.sub hp)) ⟨rs, none_of_ex g1.sub hp⟩ (none_of_ex g1.keep hp) upd_same
      · rw [if_neg c] at o1
        exact o1.elim)
/-- .. frozen at once -/
theorem SN.se {pn : Fv → Res (List T)} (h : SN G d W te pn) : SE G d W te (fun env => (pn env).bind fun ts => .ok (.lst none ts)) := fun A env σ F H Q R e o => by
  refine h A env σ F H Q R e ?_
  cases z : pn env with
  | er e => simp only [z] at o; exact o
  | stuck => simp only [z] at o; exact o
  | ok ts =>
    simp only [z] at o
    intro b F1 H1 g1 rb hp hH
    obtain ⟨rs, hF⟩ := rb
    have hF0 : F b.1 = none := none_of_ex e hp
    refine o (.ref b.1) (upd F1 b.1 (.lst b.2)) H1 ⟨g1.ex.trans (Ex.new hF), fun a x y => ?_, g1.keep, fun a h1 h2 => ?_⟩ ⟨b.1, b.2, rfl, upd_same, R.ok.new hF0, rs.mono (Ex.new hF)⟩
    · by_cases c : a = b.1
      · subst c
        rw [upd_same] at y
        rw [hH]
        exact y
      · rw [upd_ne c] at y
        exact g1.sub a x y
    · rw [upd_ne (fun c => h2.ne (by rw [c]; exact hp))]
      exact g1.sep a h1 h2
/-- a slot set to a new list -/
theorem Rel.setNew {ts : List T} {vs : List V} {pa : Addr} (R : Rel G d A0 F0 H0 A env σ F H) (hH : H pa = some (.lst vs)) (hF : F pa = none) (h0 : H0 pa = none) (hne : ∀ g, A g ≠ some pa) (h : reps G A0 F ts vs) (hi : i < env.length) (hp : i = 0 → G.c.pin = none) :
    ∃ A', Rel G d A0 F0 H0 A' (env.set i (some (.ol ts))) (σ.set i (some (.ref pa))) F H := by
  refine ⟨fun g => if g = (d, i) then some pa else A g, R.ok0, R.dep0, by rw [List.length_set, List.length_set]; exact R.len, fun g z => ?_, fun g a z => ?_, fun g g' a z y => ?_, fun j a z => ?_, R.exF, R.sub, R.keep, R.sep, fun j u e => ?_, fun j u e => ?_, fun j cc ns u e => ?_, fun j kk u e => ?_, fun b z => ?_⟩
  · show (if g = (d, i) then some pa else A g) = _
    rw [if_neg (fun y => by rw [y] at z; exact absurd z (Nat.lt_irrefl _))]
    exact R.agree g z
  · have z' : (if g = (d, i) then some pa else A g) = some a := z
    by_cases c : g = (d, i)
    · rw [c]; exact Nat.le_refl _
    · rw [if_neg c] at z'; exact R.dep g a z'
  · have z' : (if g = (d, i) then some pa else A g) = some a := z
    have y' : (if g' = (d, i) then some pa else A g') = some a := y
    by_cases c : g = (d, i)
    · by_cases c' : g' = (d, i)
      · rw [c, c']
      · rw [if_pos c] at z'; rw [if_neg c'] at y'
        cases z'
        exact absurd y' (hne g')
    · by_cases c' : g' = (d, i)
      · rw [if_neg c] at z'; rw [if_pos c'] at y'
        cases y'
        exact absurd z' (hne g)
      · rw [if_neg c] at z'; rw [if_neg c'] at y'; exact R.inj g g' a z' y'
  · have z' : (if (d, j) = (d, i) then some pa else A (d, j)) = some a := z
    by_cases c : (d, j) = (d, i)
    · rw [if_pos c] at z'
      cases z'
      exact ⟨hF, h0, by rw [hH]; trivial⟩
    · rw [if_neg c] at z'
      exact R.own j a z'
  · by_cases c : i = j
    · subst c
      rw [List.getElem?_set_self hi] at e
      cases e
    · rw [List.getElem?_set_ne c] at e ⊢
      exact R.fz j u e
  · by_cases c : i = j
    · subst c
      rw [List.getElem?_set_self hi] at e
      cases e
      exact ⟨pa, vs, List.getElem?_set_self (R.lt hi), if_pos rfl, hH, h⟩
    · rw [List.getElem?_set_ne c] at e ⊢
      obtain ⟨p, vs, h1, h2, h3, h4⟩ := R.ol j u e
      refine ⟨p, vs, h1, ?_, h3, h4⟩
      show (if (d, j) = (d, i) then some pa else A (d, j)) = some p
      rw [if_neg (fun y => c (Prod.mk.inj y).2.symm)]
      exact h2
  · by_cases c : i = j
    · subst c
      rw [List.getElem?_set_self hi] at e
      cases e
    · rw [List.getElem?_set_ne c] at e ⊢
      obtain ⟨p, dx, vs, h1, h2, h3, h4⟩ := R.oi j cc ns u e
      refine ⟨p, dx, vs, h1, ?_, h3, h4⟩
      show (if (d, j) = (d, i) then some pa else A (d, j)) = some p
      rw [if_neg (fun y => c (Prod.mk.inj y).2.symm)]
      exact h2
  · by_cases c : i = j
    · subst c
      rw [List.getElem?_set_self hi] at e
      cases e
    · rw [List.getElem?_set_ne c] at e ⊢
      obtain ⟨p, vs, h1, h2, h3⟩ := R.od j kk u e
      refine ⟨p, vs, h1, ?_, h3⟩
      show (if (d, j) = (d, i) then some pa else A (d, j)) = some p
      rw [if_neg (fun y => c (Prod.mk.inj y).2.symm)]
      exact h2
  · rw [if_neg (fun y => by rw [hp (Prod.mk.inj y).2.symm] at z; cases z)]
    exact R.pin b z
theorem Rel.noneA {pa : Addr} (R : Rel G d A0 F0 H0 A env σ F H) (hp : H pa = none) : ∀ g, A g ≠ some pa := fun g z => by
  rcases R.dep1 z with y | ⟨j, e⟩
  · exact R.ok0.al g pa y (none_of_ex (R.exF.trans R.sub) hp)
  · subst e
    exact (R.own j pa z).2.2.ne hp
theorem ss_new {pn : Fv → Res (List T)} (he : SN G d W te pn) (hq : i = 0 → G.c.pin = none) : SS G d W (tAsg te (gName i)) (S.new i pn) := fun A0 F0 H0 A env σ F H D R o => by
  refine he A0 (hide env) σ F H _ R.reH R.sub ?_
  have o' : OutS G d A0 F0 H0 W D ((pn (hide env)).then_ env fun ts => if i < env.length then .nx (env.set i (some (.ol ts))) else .stuck) := o
  cases z : pn (hide env) with
  | ok r =>
    rw [z] at o'
    intro b F1 H1 g rb hp hH
    obtain ⟨hi, o2⟩ := OutS.of_if o'
    obtain ⟨A', R2⟩ := (R.grow g).setNew hH rb.2 (none_of_ex R.keep hp) (R.noneA hp) rb.1 hi hq
    exact o2 A' _ F1 _ R2
  | er e => rw [z] at o'; exact fun dx F1 H1 g x => o' A σ F1 H1 dx (R.grow g) x
  | stuck => rw [z] at o'; exact o'
/-! ### .. is frozen -/
theorem Rel.frz1 {p : Addr} {x : HO} {t : T} (R : Rel G d A0 F0 H0 A env σ F H) (hi : i < env.length) (hs : σ[i]? = some (some (.ref p))) (hA : A (d, i) = some p) (hx : H p = some x) (hp : i = 0 → G.c.pin = none)
    (ht : ∀ F', Ex F F' → F' p = some x → (∀ g, A0 g ≠ some p) → rep G A0 F' t (.ref p)) : ∃ A' F', Rel G d A0 F0 H0 A' (env.set i (some (.fz t))) σ F' H := by
  obtain ⟨hF, hH0, hO⟩ := R.own i p hA
  have hG : Ex F (upd F p x) := Ex.new hF
  have n0 : ∀ g, A0 g ≠ some p := fun g z => by
    have z2 : A g = some p := by rw [R.agree g (R.dep0 g p z)]; exact z
    have z3 := R.inj g (d, i) p z2 hA
    have z4 := R.dep0 g p z
    rw [z3] at z4
    exact absurd z4 (Nat.lt_irrefl _)
  refine ⟨fun g => if g = (d, i) then none else A g, upd F p x, R.ok0, R.dep0, by rw [List.length_set]; exact R.len, fun g z => ?_, fun g a z => ?_, fun g g' a z y => ?_, fun j a z => ?_, R.exF.trans hG, fun a o y => ?_, R.keep, fun a h1 h2 => ?_, fun j u e => ?_, fun j u e => ?_, fun j cc ns u e => ?_, fun j kk u e => ?_, fun b z => ?_⟩
  · show (if g = (d, i) then none else A g) = _
    rw [if_neg (fun y => by rw [y] at z; exact absurd z (Nat.lt_irrefl _))]
    exact R.agree g z
  · have z' : (if g = (d, i) then none else A g) = some a := z
    by_cases c : g = (d, i)
    · rw [if_pos c] at z'; cases z'
    · rw [if_neg c] at z'; exact R.dep g a z'
  · have z' : (if g = (d, i) then none else A g) = some a := z
    have y' : (if g' = (d, i) then none else A g') = some a := y
    by_cases c : g = (d, i)
    · rw [if_pos c] at z'; cases z'
    · by_cases c' : g' = (d, i)
      · rw [if_pos c'] at y'; cases y'
      · rw [if_neg c] at z'; rw [if_neg c'] at y'; exact R.inj g g' a z' y'
  · have z' : (if (d, j) = (d, i) then none else A (d, j)) = some a := z
    by_cases c : (d, j) = (d, i)
    · rw [if_pos c] at z'; cases z'
    · rw [if_neg c] at z'
      obtain ⟨h1, h2, h3⟩ := R.own j a z'
      refine ⟨?_, h2, h3⟩
      rw [upd_ne (fun y => c (by rw [y] at z'; exact R.inj _ _ _ z' hA))]
      exact h1
  · by_cases c : a = p
    · subst c
      rw [upd_same] at y
      rw [hx]
      exact y
    · rw [upd_ne c] at y
      exact R.sub a o y
  · by_cases c : a = p
    · subst c
      exact absurd hH0 h2.ne
    · rw [upd_ne c]
      exact R.sep a h1 h2
  · by_cases c : i = j
    · subst c
      rw [List.getElem?_set_self hi] at e
      cases e
      exact ⟨_, hs, ht _ hG upd_same n0⟩
    · rw [List.getElem?_set_ne c] at e
      obtain ⟨v, h1, h2⟩ := R.fz j u e
      exact ⟨v, h1, h2.mono hG⟩
  · by_cases c : i = j
    · subst c
      rw [List.getElem?_set_self hi] at e
      cases e
    · rw [List.getElem?_set_ne c] at e
      obtain ⟨p2, vs, h1, h2, h3, h4⟩ := R.ol j u e
      refine ⟨p2, vs, h1, ?_, h3, h4.mono hG⟩
      show (if (d, j) = (d, i) then none else A (d, j)) = some p2
      rw [if_neg (fun y => c (Prod.mk.inj y).2.symm)]
      exact h2
  · by_cases c : i = j
    · subst c
      rw [List.getElem?_set_self hi] at e
      cases e
    · rw [List.getElem?_set_ne c] at e
      obtain ⟨p2, dx, vs, h1, h2, h3, h5, h4⟩ := R.oi j cc ns u e
      refine ⟨p2, dx, vs, h1, ?_, h3, h5, h4.mono hG⟩
      show (if (d, j) = (d, i) then none else A (d, j)) = some p2
      rw [if_neg (fun y => c (Prod.mk.inj y).2.symm)]
      exact h2
  · by_cases c : i = j
    · subst c
      rw [List.getElem?_set_self hi] at e
      cases e
    · rw [List.getElem?_set_ne c] at e
      obtain ⟨p2, vs, h1, h2, h3, h5, h4⟩ := R.od j kk u e
      refine ⟨p2, vs, h1, ?_, h3, h5, h4.mono hG⟩
      show (if (d, j) = (d, i) then none else A (d, j)) = some p2
      rw [if_neg (fun y => c (Prod.mk.inj y).2.symm)]
      exact h2
  · rw [if_neg (fun y => by rw [hp (Prod.mk.inj y).2.symm] at z; cases z)]
    exact R.pin b z
theorem get_lt {env : Fv} {i : Nat} {x : Option Sl} (h : env[i]? = some x) : i < env.length := (List.getElem?_eq_some_iff.mp h).1
theorem ss_frz (h : SS G d W t s) (hp : i = 0 → G.c.pin = none) : SS G d W t (S.frz i s) := fun A0 F0 H0 A env σ F H D R o => by
  unfold S.frz at o
  split at o
  · rename_i ts e
    obtain ⟨p, vs, h1, h2, h3, h4⟩ := R.ol i ts e
    obtain ⟨A', F', R'⟩ := R.frz1 (t := .lst none ts) (get_lt e) h1 h2 h3 hp fun F' eF hF n0 => ⟨p, vs, rfl, hF, n0, h4.mono eF⟩
    exact h A0 F0 H0 A' _ σ F' H D R' o
  · rename_i c ns ts e
    obtain ⟨p, dx, vs, h1, h2, h3, h5, h4⟩ := R.oi i c ns ts e
    obtain ⟨A', F', R'⟩ := R.frz1 (t := .ins none c ns ts) (get_lt e) h1 h2 h3 hp fun F' eF hF n0 => ⟨p, dx, vs, rfl, hF, h5, n0, h4.mono eF⟩
    exact h A0 F0 H0 A' _ σ F' H D R' o
  · rename_i ks ts e
    obtain ⟨p, vs, h1, h2, h3, h5, h4⟩ := R.od i ks ts e
    obtain ⟨A', F', R'⟩ := R.frz1 (t := .dct none ks ts) (get_lt e) h1 h2 h3 hp fun F' eF hF n0 => ⟨p, vs, rfl, .inl hF, h5, n0, h4.mono eF⟩
    exact h A0 F0 H0 A' _ σ F' H D R' o
  · exact h A0 F0 H0 A env σ F H D R o
/-! ### .. is changed -/
theorem Rel.wr {p : Addr} {ts us : List T} {ws : List V} (R : Rel G d A0 F0 H0 A env σ F H) (e : env[i]? = some (some (.ol ts))) (hs : σ[i]? = some (some (.ref p))) (hA : A (d, i) = some p) (h : reps G A0 F us ws) :
    Rel G d A0 F0 H0 A (env.set i (some (.ol us))) σ F (upd H p (.lst ws)) where
  ok0 := R.ok0
  dep0 := R.dep0
  len := by rw [List.length_set]; exact R.len
  agree := R.agree
  dep := R.dep
  inj := R.inj
  own := fun j a z => by
    obtain ⟨h1, h2, h3⟩ := R.own j a z
    refine ⟨h1, h2, ?_⟩
    by_cases c : a = p
    · rw [c, upd_same]; trivial
    · rw [upd_ne c]; exact h3
  exF := R.exF
  sub := fun a o y => by
    have c : a ≠ p := fun c => by
      rw [c, (R.own i p hA).1] at y
      cases y
    rw [upd_ne c]
    exact R.sub a o y
  keep := fun a o y => by
    have c : a ≠ p := fun c => by
      rw [c, (R.own i p hA).2.1] at y
      cases y
    rw [upd_ne c]
    exact R.keep a o y
  sep := R.sep
  fz := fun j u y => by
    by_cases c : i = j
    · subst c
      rw [List.getElem?_set_self (get_lt e)] at y
      cases y
    · rw [List.getElem?_set_ne c] at y
      exact R.fz j u y
  ol := fun j u y => by
    by_cases c : i = j
    · subst c
      rw [List.getElem?_set_self (get_lt e)] at y
      cases y
      exact ⟨p, ws, hs, hA, upd_same, h⟩
    · rw [List.getElem?_set_ne c] at y
      obtain ⟨p2, vs, h1, h2, h3, h4⟩ := R.ol j u y
      refine ⟨p2, vs, h1, h2, ?_, h4⟩
      rw [upd_ne (fun z => c (by rw [z] at h2; exact (Prod.mk.inj (R.inj _ _ _ h2 hA)).2.symm))]
      exact h3
  oi := fun j cc ns u y => by
    by_cases c : i = j
    · subst c
      rw [List.getElem?_set_self (get_lt e)] at y
      cases y
    · rw [List.getElem?_set_ne c] at y
      obtain ⟨p2, dx, vs, h1, h2, h3, h5, h4⟩ := R.oi j cc ns u y
      refine ⟨p2, dx, vs, h1, h2, ?_, h5, h4⟩
      rw [upd_ne (fun z => c (by rw [z] at h2; exact (Prod.mk.inj (R.inj _ _ _ h2 hA)).2.symm))]
      exact h3
  od := fun j kk u y => by
    by_cases c : i = j
    · subst c
      rw [List.getElem?_set_self (get_lt e)] at y
      cases y
    · rw [List.getElem?_set_ne c] at y
      obtain ⟨p2, vs, h1, h2, h3, h5, h4⟩ := R.od j kk u y
      refine ⟨p2, vs, h1, h2, ?_, h5, h4⟩
      rw [upd_ne (fun z => c (by rw [z] at h2; exact (Prod.mk.inj (R.inj _ _ _ h2 hA)).2.symm))]
      exact h3
  pin := R.pin
theorem rd_ol {env : Fv} {ts : List T} (e : env[i]? = some (some (.ol ts))) : rd d i env = some (.lst (some (d, i)) ts) := by
  unfold rd
  rw [e]
theorem ss_app (he : SE G d W te p) : SS G d W (tDrop (tBM G.K "list" rAppend (tVar i) (tCons te tNil))) (S.app i p) := fun A0 F0 H0 A env σ F H D R o => by
  unfold S.app at o
  split at o
  · rename_i ts e
    obtain ⟨pa, vs, h1, h2, h3, h4⟩ := R.ol i ts e
    refine ⟨_, h1, Or.inl ⟨rfl, vs, SqL.of h3⟩, R.run he o fun r v F1 H1 R1 r1 o1 => ?_⟩
    obtain ⟨hz, o2⟩ := OutS.of_if o1
    obtain ⟨pb, vs1, k1, k2, k3, k4⟩ := R1.ol i ts e
    rw [h1] at k1
    cases k1
    refine ⟨_, vs1, v, rfl, rfl, k3, by rw [k4.length]; exact hz, ?_⟩
    exact o2 _ _ _ _ (R1.wr e h1 k2 (k4.append (reps.one r1)))
  · exact o.elim
theorem ss_appX (he : SE G d W te p) : SS G d W (tDrop (tBM G.K "list" rAppend (tVar i) (tCons te tNil))) (S.appX i p) := fun A0 F0 H0 A env σ F H D R o => by
  unfold S.appX at o
  split at o
  · rename_i ts e
    obtain ⟨pa, vs, h1, h2, h3, h4⟩ := R.ol i ts e
    refine ⟨_, h1, Or.inl ⟨rfl, vs, SqL.of h3⟩, R.runX he o fun r v F1 H1 R1 r1 o1 => ?_⟩
    obtain ⟨⟨hf, hz⟩, o2⟩ := OutS.of_if o1
    obtain ⟨pb, vs1, k1, k2, k3, k4⟩ := R1.ol i ts e
    rw [h1] at k1
    cases k1
    refine ⟨_, vs1, v, rfl, rfl, k3, by rw [k4.length]; exact hz, ?_⟩
    exact o2 _ _ _ _ (R1.wr e h1 k2 (k4.append (reps.one (r1 hf))))
  · exact o.elim
theorem ixN_len {n m : Nat} {z : Int} (h : ixN n z = some m) : m < n := (ixN_seq h).2.1
theorem ss_setX (he : SE G d W te p) (hk : SE G d W tk q) : SS G d W (tAsg te (gSub (tVar i) tk rSetL)) (S.setX i q p) := fun A0 F0 H0 A env σ F H D R o => by
  unfold S.setX at o
  split at o
  · rename_i ts e
    refine R.runX he o fun r v F1 H1 R1 r1 o1 => ?_
    obtain ⟨pb, vs1, k1, k2, k3, k4⟩ := R1.ol i ts e
    refine ⟨_, k1, R1.runX hk o1 fun j w F2 H2 R2 r2 o2 => ?_⟩
    cases j <;> (try exact o2.elim)
    rename_i z
    have hw : w = .int z := r2 rfl
    subst hw
    obtain ⟨pc, vs2, l1, l2, l3, l4⟩ := R2.ol i ts e
    rw [k1] at l1
    cases l1
    have o3 : OutS G d A0 F0 H0 W D (match ixN ts.length z with | some m => if flat r = true then .nx (env.set i (some (.ol (ts.set m r)))) else .stuck | none => .stuck) := o2
    cases hm : ixN ts.length z with
    | none => rw [hm] at o3; exact o3.elim
    | some m =>
      rw [hm] at o3
      obtain ⟨hf, o4⟩ := OutS.of_if o3
      refine ⟨_, vs2, z, m, rfl, rfl, l3, by rw [l4.length]; exact hm, ?_⟩
      exact o4 _ _ _ _ (R2.wr e k1 l2 (l4.set m (rep.flat hf (r1 hf))))
  · exact o.elim
/-! ### loops -/
theorem Rel.rebase {Fx : Hp} (R : Rel G d A0 F0 H0 A env σ F H) (e1 : Ex F0 Fx) (e2 : Ex Fx F) : Rel G d A0 Fx H0 A env σ F H :=
  ⟨R.ok0.mono e1, R.dep0, R.len, R.agree, R.dep, R.inj, R.own, e2, R.sub, R.keep, fun a h1 h2 => R.sep a (none_of_ex e1 h1) h2, R.fz, R.ol, R.oi, R.od, R.pin⟩
theorem Rel.unbase {Fx : Hp} (R : Rel G d A0 Fx H0 A env σ F H) (ok : AOk A0 F0) (e1 : Ex F0 Fx) (sp : ∀ a, F0 a = none → Mtb (H0 a) → Fx a = none) : Rel G d A0 F0 H0 A env σ F H :=
  ⟨ok, R.dep0, R.len, R.agree, R.dep, R.inj, R.own, e1.trans R.exF, R.sub, R.keep, fun a h1 h2 => R.sep a (sp a h1 h2) h2, R.fz, R.ol, R.oi, R.od, R.pin⟩
theorem OutS.rebase {Fx : Hp} {m : RS} (ok : AOk A0 F0) (e1 : Ex F0 Fx) (sp : ∀ a, F0 a = none → Mtb (H0 a) → Fx a = none) (o : OutS G d A0 F0 H0 W D m) : OutS G d A0 Fx H0 W D m := by
  cases m with
  | nx env => exact fun A σ F H R => o A σ F H (R.unbase ok e1 sp)
  | br env => exact fun A σ F H R => o A σ F H (R.unbase ok e1 sp)
  | ct env => exact fun A σ F H R => o A σ F H (R.unbase ok e1 sp)
  | er e env => exact fun A σ F H dx R x => o A σ F H dx (R.unbase ok e1 sp) x
  | rt t => exact fun v F H g r => o v F H ⟨e1.trans g.ex, g.sub, g.keep, fun a h1 h2 => g.sep a (sp a h1 h2) h2⟩ r
  | stuck => exact o
/-- what a target does -/
def SG (G : Ge) (d : Nat) (g : TG) (tg : T → Fv → Option Fv) : Prop :=
  ∀ A0 F0 H0 A env σ F H t v env1 (Q : L2.St → Hp → Prop), Rel G d A0 F0 H0 A env σ F H → rep G A0 F t v → tg t env = some env1 → (∀ A' σ', Rel G d A0 F0 H0 A' env1 σ' F H → Q σ' H) → g v σ H Q
theorem sg_name (hp : i = 0 → G.c.pin = none) : SG G d (gName i) (S.tName i) := fun A0 F0 H0 A env σ F H t v env1 Q R r e k => by
  unfold S.tName at e
  by_cases hi : i < env.length
  · rw [if_pos hi] at e
    cases e
    obtain ⟨A', R'⟩ := R.set r hi hp
    exact k A' _ R'
  · rw [if_neg hi] at e
    cases e
def SGs (G : Ge) (d : Nat) (g : TGs) (gs : List (T → Fv → Option Fv)) : Prop :=
  ∀ A0 F0 H0 A env σ F H ts vs env1 (Q : L2.St → Hp → Prop), Rel G d A0 F0 H0 A env σ F H → reps G A0 F ts vs → S.tNames gs ts env = some env1 → (∀ A' σ', Rel G d A0 F0 H0 A' env1 σ' F H → Q σ' H) → g vs σ H Q
theorem sgs_nil : SGs G d gNil [] := fun A0 F0 H0 A env σ F H ts vs env1 Q R r e k => by
  cases ts with
  | nil =>
    have r' : vs = [] := r
    cases e
    exact ⟨r', k A σ R⟩
  | cons _ _ => cases e
theorem sgs_cons {g : TG} {gg : TGs} {tg : T → Fv → Option Fv} {tgs : List (T → Fv → Option Fv)} (h1 : SG G d g tg) (h2 : SGs G d gg tgs) : SGs G d (gCons g gg) (tg :: tgs) := fun A0 F0 H0 A env σ F H ts vs env1 Q R r e k => by
  cases ts with
  | nil => cases e
  | cons t ts =>
    obtain ⟨v, ws, rfl, r1, r2⟩ := r
    obtain ⟨env2, e1, e2⟩ := Option.bind_eq_some_iff.mp (show (tg t env).bind (fun env => S.tNames tgs ts env) = some env1 from e)
    exact ⟨v, ws, rfl, h1 A0 F0 H0 A env σ F H t v env2 _ R r1 e1 fun A' σ' R' => h2 A0 F0 H0 A' env2 σ' F H ts ws env1 Q R' r2 e2 k⟩
theorem sg_tup {n : Nat} {gg : TGs} {tgs : List (T → Fv → Option Fv)} (h : SGs G d gg tgs) (hn : n = tgs.length) : SG G d (gTup G.K n gg) (S.tTup tgs) := fun A0 F0 H0 A env σ F H t v env1 Q R r e k => by
  cases t <;> (try cases e)
  rename_i ts
  obtain ⟨a, vs, rfl, h1, h2⟩ := r
  have e' : S.tNames tgs ts env = some env1 := e
  have hl : ∀ (tgs : List (T → Fv → Option Fv)) (ts : List T) (env : Fv), S.tNames tgs ts env = some env1 → ts.length = tgs.length := by
    intro tgs
    induction tgs with
    | nil =>
      intro ts env e
      cases ts with
      | nil => rfl
      | cons _ _ => cases e
    | cons tg tgs ih =>
      intro ts env e
      cases ts with
      | nil => cases e
      | cons t ts =>
        obtain ⟨env2, e1, e2⟩ := Option.bind_eq_some_iff.mp (show (tg t env).bind (fun env => S.tNames tgs ts env) = some env1 from e)
        rw [List.length_cons, List.length_cons, ih ts env2 e2]
  exact ⟨a, vs, rfl, ex_s R.sub h1, by rw [h2.length, hn]; exact hl tgs ts env e', h A0 F0 H0 A env σ F H ts vs env1 Q R h2 e' k⟩
theorem ss_unp {g : TG} {tg : T → Fv → Option Fv} (he : SE G d W te p) (hg : SG G d g tg) : SS G d W (tAsg te g) (S.unp tg p) := fun A0 F0 H0 A env σ F H D R o =>
  R.run he o fun r v F1 H1 R1 r1 o1 => by
    cases z : tg r env with
    | none =>
      simp only [z] at o1
      exact o1.elim
    | some env1 =>
      simp only [z] at o1
      exact hg A0 F0 H0 A env σ F1 H1 r v env1 D.nx R1 r1 z fun A' σ' R' => o1 A' σ' F1 H1 R'
/-- what is walked -/
structure ItIs (G : Ge) (A : Al) (Fx : Hp) (ts : List T) (J : It) : Prop where
  go : ∀ i H, Ex Fx H → i < ts.length → J.go i H
  stop : ∀ i H, Ex Fx H → ts.length ≤ i → J.stop i H
  yld : ∀ i F H x H' t, Ex Fx F → Ex F H → ts[i]? = some t → J.yld i H x H' → ∃ F', Grow F H F' H' ∧ rep G A F' t x
def SI (G : Ge) (d : Nat) (W : WX) (wi : TI) (p : Fv → Res (List T)) : Prop :=
  ∀ A env σ F H Q, RE G d A env σ F → Ex F H → Outg G A F H (ItIs G A) Q (WE W σ) (p env) → wi σ H Q
def LoopAt (G : Ge) (d : Nat) (A0 : Al) (Fx H0 : Hp) (W : WX) (D : Ends) (tg : T → Fv → Option Fv) (s : Sx) (ts : List T) (k : Nat) (σ : L2.St) (H : Hp) : Prop :=
  ∃ A env F, Rel G d A0 Fx H0 A env σ F H ∧ OutS G d A0 Fx H0 W D (S.turns tg s (ts.drop k) env)
theorem ItIs.loop {tg : T → Fv → Option Fv} {g : TG} {ts : List T} {J : It} {Fx : Hp} (hJ : ItIs G A0 Fx ts J) (hg : SG G d g tg) (hb : SS G d W t s) (h : LoopAt G d A0 Fx H0 W D tg s ts 0 σ H) :
    ∃ Wf : Nat → Nat → L2.St → Hp → Prop, (∃ m, Wf 0 m σ H) ∧ ∀ i m σ H, Wf i m σ H →
      (J.stop i H ∧ D.nx σ H) ∨ (J.go i H ∧ ∃ N : L2.St → Hp → Prop, (∀ σ' H', N σ' H' → ∃ m', m' < m ∧ Wf (i + 1) m' σ' H') ∧ ∀ x H', J.yld i H x H' → g x σ H' fun σ2 H2 => t { D with nx := N, ct := N, bk := D.nx } σ2 H2) := by
  refine ⟨fun i m σ H => m = ts.length - i ∧ i ≤ ts.length ∧ LoopAt G d A0 Fx H0 W D tg s ts i σ H, ⟨ts.length, by simp, Nat.zero_le _, h⟩, ?_⟩
  rintro i m σ H ⟨rfl, hi, A, env, F, R, o⟩
  have eH : Ex Fx H := R.exF.trans R.sub
  by_cases hlt : i < ts.length
  · refine .inr ⟨hJ.go i H eH hlt, LoopAt G d A0 Fx H0 W D tg s ts (i + 1), fun σ' H' p' => ⟨ts.length - (i + 1), by omega, rfl, hlt, p'⟩, fun x H' y => ?_⟩
    have hx : ts[i]? = some ts[i] := List.getElem?_eq_getElem hlt
    obtain ⟨F', gr, rx⟩ := hJ.yld i F H x H' _ R.exF R.sub hx y
    have R1 := R.grow gr
    rw [List.drop_eq_getElem_cons hlt] at o
    have o' : OutS G d A0 Fx H0 W D (match tg ts[i] env with
      | some env1 => (match s env1 with
        | .nx env => S.turns tg s (ts.drop (i + 1)) env
        | .ct env => S.turns tg s (ts.drop (i + 1)) env
        | .br env => .nx env
        | r => r)
      | none => .stuck) := o
    cases z : tg ts[i] env with
    | none => rw [z] at o'; exact o'.elim
    | some env1 =>
      rw [z] at o'
      refine hg A0 Fx H0 A env σ F' H' _ x env1 _ R1 rx z fun A' σ' R' => hb A0 Fx H0 A' env1 σ' F' H' _ R' ?_
      cases z2 : s env1 with
      | nx e1 => simp only [z2] at o'; exact fun A σ F H R => ⟨A, e1, F, R, o'⟩
      | ct e1 => simp only [z2] at o'; exact fun A σ F H R => ⟨A, e1, F, R, o'⟩
      | br e1 => simp only [z2] at o'; exact fun A σ F H R => o' A σ F H R
      | rt t => simp only [z2] at o'; exact o'
      | er e e1 => simp only [z2] at o'; exact o'
      | stuck => simp only [z2] at o'; exact o'
  · have e : i = ts.length := by omega
    subst e
    rw [List.drop_eq_nil_of_le (Nat.le_refl _)] at o
    exact .inl ⟨hJ.stop _ H eH (Nat.le_refl _), o A σ F H R⟩
theorem ss_for {wi : TI} {g : TG} {tg : T → Fv → Option Fv} {pi : Fv → Res (List T)} (hi : SI G d W wi pi) (hg : SG G d g tg) (hb : SS G d W t s) : SS G d W (tFor wi g t) (S.for_ tg pi s) := fun A0 F0 H0 A env σ F H D R o => by
  refine hi A0 (hide env) σ F H _ R.reH R.sub ?_
  have o' : OutS G d A0 F0 H0 W D ((pi (hide env)).then_ env fun ts => S.turns tg s ts env) := o
  cases z : pi (hide env) with
  | er e => rw [z] at o'; exact fun dx F1 H1 g x => o' A σ F1 H1 dx (R.grow g) x
  | stuck => rw [z] at o'; exact o'
  | ok ts =>
    rw [z] at o'
    intro J F1 H1 gr hJ
    have R1 := R.grow gr
    have R2 := R1.rebase R1.exF (Ex.refl _)
    exact hJ.loop hg hb ⟨A, env, F1, R2, o'.rebase R.ok0 R1.exF R1.sep⟩
/-- the numbers of a range do not hang on the frame's own things -/
theorem ItIs.flat {A A' : Al} {Fx : Hp} {J : It} {ts : List T} (f : ts.all Py.flat = true) (h : ItIs G A Fx ts J) (e : Ex F Fx) (hl : ∀ i H x H' , J.yld i H x H' → H' = H) (hgo : ∀ i H, i < ts.length → J.go i H) (hst : ∀ i H, ts.length ≤ i → J.stop i H)
    (hv : ∀ i H x H' t, ts[i]? = some t → J.yld i H x H' → ∀ F, rep G A F t x) : ItIs G A' F ts J where
  go := fun i H _ => hgo i H
  stop := fun i H _ => hst i H
  yld := fun i F H x H' t _ e2 ht y => by
    have e := hl i H x H' y
    subst e
    exact ⟨F, Grow.refl e2, rep.flat (List.all_eq_true.mp f t (List.mem_of_getElem? ht)) (hv i _ x _ t ht y F)⟩
/-- whatever is walked without the heap -/
structure ItF (G : Ge) (ts : List T) (J : It) : Prop where
  go : ∀ i H, i < ts.length → J.go i H
  stop : ∀ i H, ts.length ≤ i → J.stop i H
  yld : ∀ i H x H' t, ts[i]? = some t → J.yld i H x H' → H' = H ∧ ∀ A F, rep G A F t x
theorem ItF.is {ts : List T} {J : It} (h : ItF G ts J) : ItIs G A F ts J :=
  ⟨fun i H _ => h.go i H, fun i H _ => h.stop i H, fun i F H x H' t _ e ht y => by
    obtain ⟨e1, r⟩ := h.yld i H x H' t ht y
    subst e1
    exact ⟨F, Grow.refl e, r A F⟩⟩
def SIF (G : Ge) (d : Nat) (W : WX) (wi : TI) (p : Fv → Res (List T)) : Prop :=
  ∀ A env σ F H Q, RE G d A env σ F → Ex F H → Outg G A F H (fun _ => ItF G) Q (WE W σ) (p env) → wi σ H Q
theorem SIF.si {wi : TI} {p : Fv → Res (List T)} (h : SIF G d W wi p) : SI G d W wi p := fun A env σ F H Q R e o => h A env σ F H Q R e (by
  cases z : p env with
  | ok ts => rw [z] at o; exact fun J F1 H1 g r => o J F1 H1 g r.is
  | er e => rw [z] at o; exact o
  | stuck => rw [z] at o; exact o)
theorem ss_forX {wi : TI} {g : TG} {tg : T → Fv → Option Fv} {pi : Fv → Res (List T)} (hi : SIF G d W wi pi) (hg : SG G d g tg) (hb : SS G d W t s) : SS G d W (tFor wi g t) (S.forX tg pi s) := fun A0 F0 H0 A env σ F H D R o => by
  refine hi A env σ _ H _ R.re R.subP (R.outX (k := fun ts => if ts.all Py.flat = true then S.turns tg s ts env else .stuck) o fun ts J F1 H1 R1 hJ o1 => ?_)
  obtain ⟨_, o2⟩ := OutS.of_if o1
  have R2 := R1.rebase R1.exF (Ex.refl _)
  exact hJ.is.loop hg hb ⟨A, env, _, R2, o2.rebase R.ok0 R1.exF R1.sep⟩
/-! ### a while -/
theorem while_at {n : Nat} (ht : ST G d W tt b) (hb : SS G d W t s) (R : Rel G d A0 F0 H0 A env σ F H) (o : OutS G d A0 F0 H0 W D (S.while_ b s n env)) : tWhile tt t D σ H := by
  refine ⟨fun n σ H => ∃ A env F, Rel G d A0 F0 H0 A env σ F H ∧ OutS G d A0 F0 H0 W D (S.while_ b s n env), ⟨n, A, env, F, R, o⟩, ?_⟩
  rintro n σ H ⟨A, env, F, R, o⟩
  cases n with
  | zero => exact o.elim
  | succ n =>
    refine R.runT ht o fun r F1 H1 R1 o1 => ?_
    cases r with
    | false => exact o1 A σ F1 H1 R1
    | true =>
      show ∃ N : L2.St → Hp → Prop, (∀ σ' H', N σ' H' → ∃ m', m' < n + 1 ∧ _) ∧ _
      refine ⟨fun σ H => ∃ A env F, Rel G d A0 F0 H0 A env σ F H ∧ OutS G d A0 F0 H0 W D (S.while_ b s n env), fun σ' H' p => ⟨n, Nat.lt_succ_self n, p⟩, hb A0 F0 H0 A env σ F1 H1 _ R1 ?_⟩
      have o2 : OutS G d A0 F0 H0 W D (match s env with
        | .nx env => S.while_ b s n env
        | .ct env => S.while_ b s n env
        | .br env => .nx env
        | r => r) := o1
      cases z2 : s env with
      | nx e1 => simp only [z2] at o2; exact fun A σ F H R => ⟨A, e1, F, R, o2⟩
      | ct e1 => simp only [z2] at o2; exact fun A σ F H R => ⟨A, e1, F, R, o2⟩
      | br e1 => simp only [z2] at o2; exact fun A σ F H R => o2 A σ F H R
      | rt t => simp only [z2] at o2; exact o2
      | er e e1 => simp only [z2] at o2; exact o2
      | stuck => simp only [z2] at o2; exact o2
theorem ss_while {n : Nat} (ht : ST G d W tt b) (hb : SS G d W t s) : SS G d W (tWhile tt t) (S.while_ b s n) := fun A0 F0 H0 A env σ F H D R o => while_at ht hb R o
end
/-! ### what is walked -/
section
variable {G : Ge} {d : Nat} {W : WX} {A : Al} {F H : Hp} {te : TE} {p : P.Ex1} {ta : TA} {a : P.Ax}
def rng (lo : Int) (n : Nat) : List T := (List.range n).map fun (k : Nat) => .int (lo + (k : Int))
theorem itF_rng {lo : Int} {n : Nat} : ItF G (rng lo n) (Itr lo n) where
  go := fun i H h => by
    unfold rng at h
    rw [List.length_map, List.length_range] at h
    exact h
  stop := fun i H h => by
    unfold rng at h
    rw [List.length_map, List.length_range] at h
    exact h
  yld := fun i H x H' t ht y => by
    obtain ⟨e1, e2⟩ := y
    refine ⟨e1, fun A F => ?_⟩
    unfold rng at ht
    rw [List.getElem?_map] at ht
    cases q : (List.range n)[i]? with
    | none => rw [q] at ht; cases ht
    | some k =>
      rw [q] at ht
      cases ht
      obtain ⟨_, e3⟩ := List.getElem?_eq_some_iff.mp q
      rw [List.getElem_range] at e3
      subst e3
      exact e2
def rfit (i : Int) : Bool := decide (-(2 ^ 62) ≤ i) && decide (i < 2 ^ 62)
def P.rng1 (a : P.Ax) : Fv → Res (List T) := fun env => (a env).bind fun
  | [.int n] => if rfit n = true then .ok (rng 0 n.toNat) else .stuck
  | _ => .stuck
def P.rng2 (a : P.Ax) : Fv → Res (List T) := fun env => (a env).bind fun
  | [.int m, .int n] => if (rfit m && rfit n) = true then .ok (rng m (n - m).toNat) else .stuck
  | _ => .stuck
theorem Outg.if_ {α β : Type} {R : Hp → α → β → Prop} {Q : β → Hp → Prop} {E : XK} {c : Prop} [Decidable c] {m : Res α} (o : Outg G A F H R Q E (if c then m else .stuck)) : c ∧ Outg G A F H R Q E m := by
  by_cases h : c
  · rw [if_pos h] at o
    exact ⟨h, o⟩
  · rw [if_neg h] at o
    exact o.elim
theorem sif_rng1 (ha : SA G d W ta a) : SIF G d W (iRng1 ta) (P.rng1 a) := fun A env σ F H Q R e o =>
  ha A env σ F H _ R e (Outg.bind o fun xs vs F1 H1 g1 rs o1 => by
    match xs, rs, o1 with
    | [.int n], rs, o1 =>
      obtain ⟨v, ws, rfl, r1, r2⟩ := rs
      have r1' : v = .int n := r1
      have r2' : ws = [] := r2
      subst r1' r2'
      obtain ⟨c, o2⟩ := Outg.if_ o1
      obtain ⟨c1, c2⟩ := band c
      exact ⟨n, rfl, of_decide_eq_true c1, of_decide_eq_true c2, o2 _ F1 H1 (Grow.refl g1.sub) itF_rng⟩
    | [], _, o1 => exact o1.elim
    | .non :: _, _, o1 => exact o1.elim
    | .bl _ :: _, _, o1 => exact o1.elim
    | .str _ :: _, _, o1 => exact o1.elim
    | .lst _ _ :: _, _, o1 => exact o1.elim
    | .tup _ :: _, _, o1 => exact o1.elim
    | .ro _ :: _, _, o1 => exact o1.elim
    | .ins _ _ _ _ :: _, _, o1 => exact o1.elim
    | .dct _ _ _ :: _, _, o1 => exact o1.elim
    | .exn _ _ _ :: _, _, o1 => exact o1.elim
    | .int _ :: _ :: _, _, o1 => exact o1.elim)
theorem sif_rng2 (ha : SA G d W ta a) : SIF G d W (iRng2 ta) (P.rng2 a) := fun A env σ F H Q R e o =>
  ha A env σ F H _ R e (Outg.bind o fun xs vs F1 H1 g1 rs o1 => by
    split at o1
    · rename_i m n
      obtain ⟨v, ws, rfl, r1, v2, ws2, rfl, r2, r3⟩ := rs
      have r1' : v = .int m := r1
      have r2' : v2 = .int n := r2
      have r3' : ws2 = [] := r3
      subst r1' r2' r3'
      obtain ⟨c, o2⟩ := Outg.if_ o1
      obtain ⟨c1, c2⟩ := band c
      obtain ⟨c3, c4⟩ := band c1
      obtain ⟨c5, c6⟩ := band c2
      exact ⟨m, n, rfl, ⟨of_decide_eq_true c3, of_decide_eq_true c4, of_decide_eq_true c5, of_decide_eq_true c6⟩, o2 _ F1 H1 (Grow.refl g1.sub) itF_rng⟩
    · exact o1.elim)
/-- a list or a tuple -/
def iSeq (K : PySem.W.Frag) (tl : TE) : TI := fun σ H R => tl σ H fun x H1 => ∃ a, x = .ref a ∧ (((∃ xs, SqL K H1 a xs) ∧ R (Itl K a) H1) ∨ ((∃ xs, SqT K H1 a xs) ∧ R (Itt K a) H1))
theorem pi_seq {X : Cx} {tg l : Expr} {tl : TE} (hl : PE X l tl) : PI X tg l (iSeq X.K tl) := by
  refine ⟨fun pins s σ H R I h => ?_⟩
  refine thn (hl.run pins s σ H _ I h) fun v s1 ⟨x, H1, I1, r1, q1⟩ => ?_
  obtain ⟨a, e, q1⟩ := q1
  subst e
  cases r1
  rcases q1 with ⟨⟨xs, hq⟩, q⟩ | ⟨⟨xs, hq⟩, q⟩
  · obtain ⟨its, rv, p, hz⟩ := I1.list hq
    refine wpAny_pyIter_list p.isList ?_
    refine ⟨s1.heap.objs.size, [s1.heap.objs.size], _, _, H1, rfl, I1.kept (t' := s1.toks) fun b o e => Heap.get?_push_of_some _ e, turn_list a _, ⟨_, Heap.get?_push_size _ rfl, rfl, rfl⟩, fun b hb => ?_, q⟩
    have e : b = s1.heap.objs.size := by simpa using hb
    subst e
    exact I1.fpOk (Nat.le_refl _) (I1.hok.fresh (Nat.le_refl _))
  · obtain ⟨its, rv, p, hz⟩ := I1.tuple hq
    refine wpAny_pyIter_tuple (show s1.heap.IsTuple a its.toArray from p) ?_
    refine ⟨s1.heap.objs.size, [s1.heap.objs.size], _, _, H1, rfl, I1.kept (t' := s1.toks) fun b o e => Heap.get?_push_of_some _ e, turn_tuple a _, ⟨_, Heap.get?_push_size _ rfl, rfl, rfl⟩, fun b hb => ?_, q⟩
    have e : b = s1.heap.objs.size := by simpa using hb
    subst e
    exact I1.fpOk (Nat.le_refl _) (I1.hok.fresh (Nat.le_refl _))
def P.items (p : P.Ex1) : Fv → Res (List T) := fun env => (p env).bind fun t => .of t.items
theorem itIs_list {a : Addr} {vs : List V} {ts : List T} (h : SqL G.K F a vs) (r : reps G A F ts vs) : ItIs G A F ts (Itl G.K a) where
  go := fun i H e hi => ⟨vs, vs[i]'(by rw [r.length]; exact hi), ex_l e h, List.getElem?_eq_getElem _⟩
  stop := fun i H e hi => ⟨vs, ex_l e h, by rw [r.length]; exact hi⟩
  yld := fun i F1 H x H' t e1 e2 ht y => by
    obtain ⟨e3, y⟩ := y
    subst e3
    obtain ⟨v, hv, rv⟩ := r.get ht
    have hx := y vs (ex_l (e1.trans e2) h)
    rw [hv] at hx
    cases hx
    exact ⟨F1, Grow.refl e2, rv.mono e1⟩
theorem itIs_tup {a : Addr} {vs : List V} {ts : List T} (h : SqT G.K F a vs) (r : reps G A F ts vs) : ItIs G A F ts (Itt G.K a) where
  go := fun i H e hi => ⟨vs, vs[i]'(by rw [r.length]; exact hi), ex_t e h, List.getElem?_eq_getElem _⟩
  stop := fun i H e hi => ⟨vs, ex_t e h, by rw [r.length]; exact hi⟩
  yld := fun i F1 H x H' t e1 e2 ht y => by
    obtain ⟨e3, y⟩ := y
    subst e3
    obtain ⟨v, hv, rv⟩ := r.get ht
    have hx := y vs (ex_t (e1.trans e2) h)
    rw [hv] at hx
    cases hx
    exact ⟨F1, Grow.refl e2, rv.mono e1⟩
theorem si_seq (he : SE G d W te p) : SI G d W (iSeq G.K te) (P.items p) := fun A env σ F H Q R e o =>
  he A env σ F H _ R e (Outg.bind o fun x v F1 H1 g1 rx o1 => by
    cases z : x.items with
    | none => rw [z] at o1; exact o1.elim
    | some ts =>
      rw [z] at o1
      obtain ⟨a, vs, rfl, s, r⟩ := items_of rx z
      rcases s with s | s
      · exact ⟨a, rfl, .inl ⟨⟨vs, ex_l g1.sub s⟩, o1 _ F1 H1 (Grow.refl g1.sub) (itIs_list s r)⟩⟩
      · exact ⟨a, rfl, .inr ⟨⟨vs, ex_s g1.sub s⟩, o1 _ F1 H1 (Grow.refl g1.sub) (itIs_tup (SqT.of s) r)⟩⟩)
end
end Py

set_option Elab.async false
set_option linter.all false
set_option maxRecDepth 100000
set_option maxHeartbeats 4000000
namespace Py
open PySem L2 PySem.Spec PyProof.Rows Evl

/-! ### rule and reading together -/
structure DE (cl : Cl) (X : Cx) (d : Nat) (W : WX) (e : Expr) (p : P.Ex1) : Prop where
  ex : ∃ te, PE X e te ∧ SE ⟨X.K, cl⟩ d W te p
structure DT (cl : Cl) (X : Cx) (d : Nat) (W : WX) (e : Expr) (p : P.Bx) : Prop where
  ex : ∃ te, PT X e te ∧ ST ⟨X.K, cl⟩ d W te p
structure DW (cl : Cl) (X : Cx) (d : Nat) (W : WX) (e : Expr) (p : P.Bx) : Prop where
  ex : ∃ te, PW X e te ∧ ST ⟨X.K, cl⟩ d W te p
structure DA (cl : Cl) (X : Cx) (d : Nat) (W : WX) (es : List Expr) (p : P.Ax) : Prop where
  ex : ∃ te, PA X es te ∧ SA ⟨X.K, cl⟩ d W te p
structure DS (cl : Cl) (X : Cx) (d : Nat) (W : WX) (st : Stmt) (s : Sx) : Prop where
  ex : ∃ t, PS X st t ∧ SS ⟨X.K, cl⟩ d W t s
structure DB (cl : Cl) (X : Cx) (d : Nat) (W : WX) (st : List Stmt) (s : Sx) : Prop where
  ex : ∃ t, PSs X st t ∧ SS ⟨X.K, cl⟩ d W t s
structure DG (cl : Cl) (X : Cx) (d : Nat) (e : Expr) (tg : T → Fv → Option Fv) : Prop where
  ex : ∃ g, PG X e g ∧ SG ⟨X.K, cl⟩ d g tg
structure DGs (cl : Cl) (X : Cx) (d : Nat) (es : List Expr) (tgs : List (T → Fv → Option Fv)) : Prop where
  ex : ∃ g, PGs X es g ∧ SGs ⟨X.K, cl⟩ d g tgs
structure DI (cl : Cl) (X : Cx) (d : Nat) (W : WX) (tg e : Expr) (p : Fv → Res (List T)) : Prop where
  ex : ∃ wi, PI X tg e wi ∧ SI ⟨X.K, cl⟩ d W wi p
structure DIF (cl : Cl) (X : Cx) (d : Nat) (W : WX) (tg e : Expr) (p : Fv → Res (List T)) : Prop where
  ex : ∃ wi, PI X tg e wi ∧ SIF ⟨X.K, cl⟩ d W wi p
structure DN (cl : Cl) (X : Cx) (d : Nat) (W : WX) (e : Expr) (p : Fv → Res (List T)) : Prop where
  ex : ∃ te, PE X e te ∧ SN ⟨X.K, cl⟩ d W te p
section
variable {cl : Cl} {X : Cx} {d : Nat} {W : WX} {e e1 e2 e3 o : Expr} {es rest : List Expr} {p q r : P.Ex1} {a : P.Ax} {b b' : P.Bx} {pos p1 p2 : Pos} {f g : T → T → Option T} {s s' u : Sx} {st : Stmt} {sts sts' : List Stmt} {i : Nat}
theorem de_v (i : Nat) {x : Str} (hN : X.N[i]? = some x := by rfl) (hv : Vis X.env.scope x := by first | exact Or.inl rfl | exact Or.inr (Or.inl rfl) | exact Or.inr (Or.inr rfl)) (hd : (x == ("__debug__" : Str)) = false := by decide)
    (hcd : (x == ("__classdict__" : Str)) = false := by decide) : DE cl X d W (.Name x pos) (P.var d i) := ⟨_, pe_var hN hv hd hcd, se_var⟩
theorem de_int {n j} : DE cl X d W (.Constant (.int n) j pos) (P.c (.int n)) := ⟨_, pe_int, se_c fun _ _ => rfl⟩
theorem de_bl {n j} : DE cl X d W (.Constant (.bool n) j pos) (P.c (.bl n)) := ⟨_, pe_bl, se_c fun _ _ => rfl⟩
theorem de_str {n j} : DE cl X d W (.Constant (.str n) j pos) (P.c (.str n)) := ⟨_, pe_str, se_c fun _ _ => rfl⟩
theorem de_non {j} : DE cl X d W (.Constant .none j pos) (P.c .non) := ⟨_, pe_non, se_c fun _ _ => rfl⟩
/-- a name of the module that holds a plain thing -/
theorem de_g {x : Str} {v : V} {uu : Value} {t : T} (ht : ∀ G A F, rep G A F t v) (hm : X.mg x = some uu) (r : RelV v uu) (hg : Gl X x := by rfl) (hd : (x == ("__debug__" : Str)) = false := by decide) : DE cl X d W (.Name x pos) (P.c t) := ⟨_, pe_glob hg hm r hd, se_c fun A F => ht _ A F⟩
theorem de_op {op : Operator} (ho : OpD X cl (binaryOp op) f) (h1 : DE cl X d W e1 p) (h2 : DE cl X d W e2 q) : DE cl X d W (.BinOp e1 op e2 pos) (P.bin f p q) := by
  obtain ⟨r, a1, a2⟩ := ho
  obtain ⟨t1, b1, b2⟩ := h1
  obtain ⟨t2, c1, c2⟩ := h2
  exact ⟨_, pe_op a1 b1 c1, se_op a2 b2 c2⟩
theorem de_un {op : UnaryOp} {f : T → Option T} (ho : UnD X cl (unaryOp op) f) (h1 : DE cl X d W e1 p) : DE cl X d W (.UnaryOp op e1 pos) (P.un f p) := by
  obtain ⟨r, a1, a2⟩ := ho
  obtain ⟨t1, b1, b2⟩ := h1
  exact ⟨_, pe_un a1 b1, se_un a2 b2⟩
theorem de_cmp {op : CmpOp} (ho : OpD X cl (compareOp op) f) (h1 : DE cl X d W e1 p) (h2 : DE cl X d W e2 q) (hm : behindInMarks op e2 = false := by first | exact nomark _ | rfl) : DE cl X d W (.Compare e1 [op] [e2] pos) (P.bin f p q) := by
  obtain ⟨r, a1, a2⟩ := ho
  obtain ⟨t1, b1, b2⟩ := h1
  obtain ⟨t2, c1, c2⟩ := h2
  exact ⟨_, pe_cmpR a1 b1 c1 hm, se_op a2 b2 c2⟩
theorem dt_cmp {op : CmpOp} (ho : OpD X cl (compareOp op) f) (h1 : DE cl X d W e1 p) (h2 : DE cl X d W e2 q) (hm : behindInMarks op e2 = false := by first | exact nomark _ | rfl) : DT cl X d W (.Compare e1 [op] [e2] pos) (P.tb (P.bin f p q)) := by
  obtain ⟨r, a1, a2⟩ := ho
  obtain ⟨t1, b1, b2⟩ := h1
  obtain ⟨t2, c1, c2⟩ := h2
  exact ⟨_, pt_cmpR a1 b1 c1 hm, st_test (se_op a2 b2 c2)⟩
theorem dt_val (h1 : DE cl X d W e p) (he : ∀ whole, isTrue e X.env whole = (do let v ← whole; standAt e.pos; holding [v] (truthy v)) := by intro _; rfl) : DT cl X d W e (P.tb p) := by
  obtain ⟨t1, b1, b2⟩ := h1
  exact ⟨_, pt_val b1 he, st_tb b2⟩
theorem dt_tr (h1 : DE cl X d W e p) (he : ∀ whole, isTrue e X.env whole = (do let v ← whole; standAt e.pos; holding [v] (truthy v)) := by intro _; rfl) : DT cl X d W e (P.tr p) := by
  obtain ⟨t1, b1, b2⟩ := h1
  exact ⟨_, pt_truth b1 he, st_tr b2⟩
theorem dt_not (h1 : DT cl X d W e b) : DT cl X d W (.UnaryOp .Not e pos) (P.not b) := by
  obtain ⟨t1, b1, b2⟩ := h1
  exact ⟨_, pt_not b1, st_not b2⟩
theorem dt_w (h1 : DW cl X d W e b) : DT cl X d W e b := by
  obtain ⟨t1, b1, b2⟩ := h1
  exact ⟨_, b1.pt, b2⟩
theorem dw_and1 (h1 : DT cl X d W e b) : DW cl X d W (.BoolOp .And [e] pos) b := by
  obtain ⟨t1, b1, b2⟩ := h1
  exact ⟨_, pw_and1 b1, b2⟩
theorem dw_or1 (h1 : DT cl X d W e b) : DW cl X d W (.BoolOp .Or [e] pos) b := by
  obtain ⟨t1, b1, b2⟩ := h1
  exact ⟨_, pw_or1 b1, b2⟩
theorem dw_and (h1 : DT cl X d W e1 b) (h2 : DW cl X d W (.BoolOp .And (e2 :: rest) pos) b') : DW cl X d W (.BoolOp .And (e1 :: e2 :: rest) pos) (P.and b b') := by
  obtain ⟨t1, b1, b2⟩ := h1
  obtain ⟨t2, c1, c2⟩ := h2
  exact ⟨_, pw_and b1 c1, st_and b2 c2⟩
theorem dw_or (h1 : DT cl X d W e1 b) (h2 : DW cl X d W (.BoolOp .Or (e2 :: rest) pos) b') : DW cl X d W (.BoolOp .Or (e1 :: e2 :: rest) pos) (P.or b b') := by
  obtain ⟨t1, b1, b2⟩ := h1
  obtain ⟨t2, c1, c2⟩ := h2
  exact ⟨_, pw_or b1 c1, st_or b2 c2⟩
theorem de_one {op} (h1 : DE cl X d W e p) : DE cl X d W (.BoolOp op [e] pos) p := by
  obtain ⟨t1, b1, b2⟩ := h1
  exact ⟨_, pe_one b1, b2⟩
theorem de_and (h1 : DE cl X d W e1 p) (h2 : DE cl X d W (.BoolOp .And (e2 :: rest) pos) q) : DE cl X d W (.BoolOp .And (e1 :: e2 :: rest) pos) (P.andV p q) := by
  obtain ⟨t1, b1, b2⟩ := h1
  obtain ⟨t2, c1, c2⟩ := h2
  exact ⟨_, pe_and b1 c1, se_andV b2 c2⟩
theorem de_or (h1 : DE cl X d W e1 p) (h2 : DE cl X d W (.BoolOp .Or (e2 :: rest) pos) q) : DE cl X d W (.BoolOp .Or (e1 :: e2 :: rest) pos) (P.orV p q) := by
  obtain ⟨t1, b1, b2⟩ := h1
  obtain ⟨t2, c1, c2⟩ := h2
  exact ⟨_, pe_or b1 c1, se_orV b2 c2⟩
theorem de_not (h1 : DE cl X d W e p) : DE cl X d W (.UnaryOp .Not e pos) (P.notV p) := by
  obtain ⟨t1, b1, b2⟩ := h1
  exact ⟨_, pe_not b1, se_notV b2⟩
theorem de_ite (ht : DT cl X d W e b) (h1 : DE cl X d W e1 p) (h2 : DE cl X d W e2 q) : DE cl X d W (.IfExp e e1 e2 pos) (P.ite b p q) := by
  obtain ⟨t0, a1, a2⟩ := ht
  obtain ⟨t1, b1, b2⟩ := h1
  obtain ⟨t2, c1, c2⟩ := h2
  exact ⟨_, pe_ifExp a1 b1 c1, se_if a2 b2 c2⟩
theorem de_chain {op op' : CmpOp} (ho : OpD X cl (compareOp op) f) (ho' : OpD X cl (compareOp op') g) (h1 : DE cl X d W e1 p) (h2 : DE cl X d W e2 q) (h3 : DE cl X d W e3 r) (hm : lastMarks [op, op'] [e2, e3] = false := by rfl) : DE cl X d W (.Compare e1 [op, op'] [e2, e3] pos) (P.chain f g p q r) := by
  obtain ⟨r1, x1, x2⟩ := ho
  obtain ⟨r2, y1, y2⟩ := ho'
  obtain ⟨t0, a1, a2⟩ := h1
  obtain ⟨t1, b1, b2⟩ := h2
  obtain ⟨t2, c1, c2⟩ := h3
  exact ⟨_, pe_chain x1 y1 a1 b1 c1 hm, se_chain x2 y2 a2 b2 c2⟩
theorem da_nil : DA cl X d W [] P.nil := ⟨_, pa_nil, sa_nil⟩
theorem da_cons (h1 : DE cl X d W e p) (h2 : DA cl X d W es a) (hs : starEach (e :: es) X.env = (false, eval e X.env) :: starEach es X.env := by rfl) : DA cl X d W (e :: es) (P.cons p a) := by
  obtain ⟨t1, b1, b2⟩ := h1
  obtain ⟨t2, c1, c2⟩ := h2
  exact ⟨_, pa_cons b1 c1 hs, sa_cons b2 c2⟩
theorem de_tup {x1} (h : DA cl X d W es a) : DE cl X d W (.Tuple es x1 pos) (P.tup a) := by
  obtain ⟨t1, b1, b2⟩ := h
  exact ⟨_, pe_tup b1, se_tup b2⟩
theorem de_lst (h : DA cl X d W es a) : DE cl X d W (.List es pos) (P.lst a) := by
  obtain ⟨t1, b1, b2⟩ := h
  exact ⟨_, pe_lst b1, se_lst b2⟩
theorem dn_lst (h : DA cl X d W es a) : DN cl X d W (.List es pos) (lfits a) := by
  obtain ⟨t1, b1, b2⟩ := h
  exact ⟨_, pe_lst b1, sn_lst b2⟩
theorem de_ix (h1 : DE cl X d W e1 p) (h2 : DE cl X d W e2 q) (hs : PlainIx e2 := by exact fun _ _ => rfl) : DE cl X d W (.Subscript e1 e2 pos) (P.bin T.ix p q) := by
  obtain ⟨r, a1, a2⟩ := ixD (X := X) (cl := cl)
  obtain ⟨t1, b1, b2⟩ := h1
  obtain ⟨t2, c1, c2⟩ := h2
  exact ⟨_, pe_ix a1 b1 c1 hs, se_op a2 b2 c2⟩
/-- a def of the module -/
theorem de_call {k n : Nat} {fa : Addr} {fd : FuncData} {ps : List Str} {f : Nat → List T → Res T} {x : Str} (F : FnOk X.prog X.w X.K X.mg X.base (L2.CX X.prog X.w) k fa fd ps (spT ⟨X.K, cl⟩ n f)) (hr : Room k X.A) (hm : X.mg x = some (.ref fa)) (hk : PySem.W.keepIn X.K (.ref fa) = true)
    (hb : Binds X.K fd ps []) (tk : Takes X W) (ha : DA cl X d W (e :: es) a) (hn : ∀ env xs, a env = .ok xs → xs.length = n) (hg : Gl X x := by rfl) (hdb : (x == ("__debug__" : Str)) = false := by decide)
    (he : starEach (e :: es) X.env = (false, eval e X.env) :: starEach es X.env := by rfl) (hpl : (backTo pos (starEach es X.env)).any (·.1) = false := by rfl) : DE cl X d W (.Call (.Name x p1) (e :: es) [] pos) (P.call (f (d + 1)) a) := by
  obtain ⟨t, c1, c2⟩ := ha
  exact ⟨_, pe_callS F hr hg hm hk hb (fun σ => passAt tk σ) c1 hdb he hpl, se_call rfl hn c2⟩
/-- how many arguments -/
theorem n_nil : ∀ env xs, P.nil env = .ok xs → xs.length = 0 := fun env xs h => by cases h; rfl
theorem n_cons {n : Nat} (h : ∀ env xs, a env = .ok xs → xs.length = n) : ∀ env xs, P.cons p a env = .ok xs → xs.length = n + 1 := fun env xs h2 => by
  unfold P.cons at h2
  cases z : p env with
  | ok x =>
    rw [z] at h2
    cases z2 : a env with
    | ok ys =>
      rw [Res.bind_ok, z2] at h2
      cases h2
      rw [List.length_cons, h env ys z2]
    | er e => rw [Res.bind_ok, z2] at h2; cases h2
    | stuck => rw [Res.bind_ok, z2] at h2; cases h2
  | er e => rw [z] at h2; cases h2
  | stuck => rw [z] at h2; cases h2

/-! ### statements -/
theorem db_nil : DB cl X d W [] S.skip := ⟨_, pss_nil, ss_skip⟩
theorem db_one (h : DS cl X d W st s) : DB cl X d W [st] s := by
  obtain ⟨t, a1, a2⟩ := h
  exact ⟨_, pss_one a1, a2⟩
theorem db_cons (h : DS cl X d W st s) (h2 : DB cl X d W sts u) : DB cl X d W (st :: sts) (S.seq s u) := by
  obtain ⟨t, a1, a2⟩ := h
  obtain ⟨t', b1, b2⟩ := h2
  exact ⟨_, pss_cons a1 b1, ss_seq a2 b2⟩
theorem ds_asg {i : Nat} {x : Str} {p' : Pos} (hN : X.N.Nodup) (h : DE cl X d W e p) (hi : X.N[i]? = some x := by rfl) (hx : Loc X.env.scope x := by first | exact Or.inl rfl | exact Or.inr rfl) (hs : swapsWith e (some (.Name x p')) pos.line X.env = pure false := by rfl)
    (hf : X.fn x = true ∨ X.env.scope.names.lookup x = some .local := by first | exact .inl rfl | exact .inr rfl) (hp : i = 0 → cl.pin = none := by first | (intro _; assumption) | (intro h; cases h)) : DS cl X d W (.Assign [.Name x p'] e pos) (S.asg i p) := by
  obtain ⟨t, a1, a2⟩ := h
  exact ⟨_, ps_set hN hi hx a1 hs hf, ss_asg a2 hp⟩
theorem ds_asgX {i : Nat} {x : Str} {p' : Pos} (hN : X.N.Nodup) (h : DE cl X d W e p) (hi : X.N[i]? = some x := by rfl) (hx : Loc X.env.scope x := by first | exact Or.inl rfl | exact Or.inr rfl) (hs : swapsWith e (some (.Name x p')) pos.line X.env = pure false := by rfl)
    (hf : X.fn x = true ∨ X.env.scope.names.lookup x = some .local := by first | exact .inl rfl | exact .inr rfl) (hp : i = 0 → cl.pin = none := by first | (intro _; assumption) | (intro h; cases h)) : DS cl X d W (.Assign [.Name x p'] e pos) (S.asgX i p) := by
  obtain ⟨t, a1, a2⟩ := h
  exact ⟨_, ps_set hN hi hx a1 hs hf, ss_asgX a2 hp⟩
theorem ds_new {i : Nat} {x : Str} {p' : Pos} {pn : Fv → Res (List T)} (hN : X.N.Nodup) (h : DN cl X d W e pn) (hi : X.N[i]? = some x := by rfl) (hx : Loc X.env.scope x := by first | exact Or.inl rfl | exact Or.inr rfl) (hs : swapsWith e (some (.Name x p')) pos.line X.env = pure false := by rfl)
    (hf : X.fn x = true ∨ X.env.scope.names.lookup x = some .local := by first | exact .inl rfl | exact .inr rfl) (hp : i = 0 → cl.pin = none := by first | (intro _; assumption) | (intro h; cases h)) : DS cl X d W (.Assign [.Name x p'] e pos) (S.new i pn) := by
  obtain ⟨t, a1, a2⟩ := h
  exact ⟨_, ps_set hN hi hx a1 hs hf, ss_new a2 hp⟩
theorem ds_frz (i : Nat) (h : DS cl X d W st s) (hp : i = 0 → cl.pin = none := by first | (intro _; assumption) | (intro h; cases h)) : DS cl X d W st (S.frz i s) := by
  obtain ⟨t, a1, a2⟩ := h
  exact ⟨_, a1, ss_frz a2 hp⟩
theorem ds_app {i : Nat} {x : Str} {apos p' : Pos} (h : DE cl X d W e p) (hN : X.N[i]? = some x := by rfl) (hv : Vis X.env.scope x := by first | exact Or.inl rfl | exact Or.inr (Or.inl rfl) | exact Or.inr (Or.inr rfl)) (hd : (x == ("__debug__" : Str)) = false := by decide) (hcd : (x == ("__classdict__" : Str)) = false := by decide)
    (hbase : attributeBase (.Name x p') "append" X.env (eval (.Name x p') X.env) = eval (.Name x p') X.env := by rfl)
    (hfew : ((backTo p1 (starEach [e] X.env)).all (fun x => !x.1) && (backToKw p1 (keywordEach [] X.env)).all (fun x => x.1.isSome) && decide ([e].length + ([] : List Keyword).length + (if ([] : List Keyword).isEmpty then 0 else 1) < 30)) = true := by rfl)
    (hline : (apos.endLine == p1.line) = true := by rfl) (hs : starEach [e] X.env = (false, eval e X.env) :: starEach [] X.env := by rfl) (hplain : (backTo p1 (starEach [] X.env)).any (·.1) = false := by rfl)
    (hsw : swapsWith (.Call (.Attribute (.Name x p') "append" apos) [e] [] p1) none pos.line X.env = pure false := by rfl) : DS cl X d W (.Expr (.Call (.Attribute (.Name x p') "append" apos) [e] [] p1) pos) (S.app i p) := by
  obtain ⟨t, a1, a2⟩ := h
  exact ⟨_, ps_expr (pe_bm PySem.F.plainAttrs_list PySem.F.slot_list_append PySem.F.type_list_append mt_append (pe_var hN hv hd hcd) (pa_cons a1 pa_nil hs) hbase hfew hline hs hplain) hsw, ss_app a2⟩
theorem ds_appX {i : Nat} {x : Str} {apos p' : Pos} (h : DE cl X d W e p) (hN : X.N[i]? = some x := by rfl) (hv : Vis X.env.scope x := by first | exact Or.inl rfl | exact Or.inr (Or.inl rfl) | exact Or.inr (Or.inr rfl)) (hd : (x == ("__debug__" : Str)) = false := by decide) (hcd : (x == ("__classdict__" : Str)) = false := by decide)
    (hbase : attributeBase (.Name x p') "append" X.env (eval (.Name x p') X.env) = eval (.Name x p') X.env := by rfl)
    (hfew : ((backTo p1 (starEach [e] X.env)).all (fun x => !x.1) && (backToKw p1 (keywordEach [] X.env)).all (fun x => x.1.isSome) && decide ([e].length + ([] : List Keyword).length + (if ([] : List Keyword).isEmpty then 0 else 1) < 30)) = true := by rfl)
    (hline : (apos.endLine == p1.line) = true := by rfl) (hs : starEach [e] X.env = (false, eval e X.env) :: starEach [] X.env := by rfl) (hplain : (backTo p1 (starEach [] X.env)).any (·.1) = false := by rfl)
    (hsw : swapsWith (.Call (.Attribute (.Name x p') "append" apos) [e] [] p1) none pos.line X.env = pure false := by rfl) : DS cl X d W (.Expr (.Call (.Attribute (.Name x p') "append" apos) [e] [] p1) pos) (S.appX i p) := by
  obtain ⟨t, a1, a2⟩ := h
  exact ⟨_, ps_expr (pe_bm PySem.F.plainAttrs_list PySem.F.slot_list_append PySem.F.type_list_append mt_append (pe_var hN hv hd hcd) (pa_cons a1 pa_nil hs) hbase hfew hline hs hplain) hsw, ss_appX a2⟩
theorem ds_setX {i : Nat} {x : Str} {p' : Pos} {x1} (h : DE cl X d W e p) (hk : DE cl X d W e2 q) (hN : X.N[i]? = some x := by rfl) (hv : Vis X.env.scope x := by first | exact Or.inl rfl | exact Or.inr (Or.inl rfl) | exact Or.inr (Or.inr rfl)) (hd : (x == ("__debug__" : Str)) = false := by decide) (hcd : (x == ("__classdict__" : Str)) = false := by decide)
    (hs : swapsWithSole [.Subscript (.Name x p') e2 x1] e pos.line X.env = pure false := by rfl) (hw : swappedStores [.Subscript (.Name x p') e2 x1] e X.env = pure none := by rfl)
    (ha : ∀ v, assign (.Subscript (.Name x p') e2 x1) X.env v = (do
      let ov ← holding [v] (eval (.Name x p') X.env)
      let iv ← holding [v, ov] (eval e2 X.env)
      standAt x1
      holding [v, ov, iv] (setItem ov iv v)
      release [v, ov, iv] []) := by intro _; rfl) : DS cl X d W (.Assign [.Subscript (.Name x p') e2 x1] e pos) (S.setX i q p) := by
  obtain ⟨t, a1, a2⟩ := h
  obtain ⟨t2, b1, b2⟩ := hk
  exact ⟨_, ps_asg a1 (pg_sub (pe_var hN hv hd hcd) b1 set_list ha) hs hw, ss_setX a2 b2⟩
theorem ds_expr (h : DE cl X d W e p) (hs : swapsWith e none pos.line X.env = pure false := by rfl) : DS cl X d W (.Expr e pos) (S.expr p) := by
  obtain ⟨t, a1, a2⟩ := h
  exact ⟨_, ps_expr a1 hs, ss_expr a2⟩
theorem ds_ret (h : DE cl X d W e p) : DS cl X d W (.Return (some e) pos) (S.ret p) := by
  obtain ⟨t, a1, a2⟩ := h
  exact ⟨_, ps_ret a1, ss_ret a2⟩
theorem ds_retX (h : DE cl X d W e p) : DS cl X d W (.Return (some e) pos) (S.retX p) := by
  obtain ⟨t, a1, a2⟩ := h
  exact ⟨_, ps_ret a1, ss_retX a2⟩
theorem ds_retN : DS cl X d W (.Return none pos) S.retN := ⟨_, ps_retN, ss_retN⟩
theorem ds_brk : DS cl X d W (.Break pos) S.brk := ⟨_, ps_break, ss_brk⟩
theorem ds_cnt : DS cl X d W (.Continue pos) S.cnt := ⟨_, ps_continue, ss_cnt⟩
theorem ds_pass : DS cl X d W (.Pass pos) S.skip := ⟨_, ps_pass, ss_skip⟩
theorem ds_if (ht : DT cl X d W e b) (h1 : DB cl X d W sts s) (h2 : DB cl X d W sts' s') : DS cl X d W (.If e sts sts' pos) (S.ite b s s') := by
  obtain ⟨t, a1, a2⟩ := ht
  obtain ⟨t1, b1, b2⟩ := h1
  obtain ⟨t2, c1, c2⟩ := h2
  exact ⟨_, ps_if a1 b1 c1, ss_if a2 b2 c2⟩
theorem ds_while (n : Nat) (po : PassesOwn (model X.prog X.w) X.A X.env X.xe) (ht : DT cl X d W e b) (h1 : DB cl X d W sts s) : DS cl X d W (.While e sts [] pos) (S.while_ b s n) := by
  obtain ⟨t, a1, a2⟩ := ht
  obtain ⟨t1, b1, b2⟩ := h1
  exact ⟨_, ps_while po a1 b1, ss_while a2 b2⟩
theorem dg_name {i : Nat} {x : Str} (hN : X.N.Nodup) (hi : X.N[i]? = some x := by rfl) (hx : Loc X.env.scope x := by first | exact Or.inl rfl | exact Or.inr rfl) (hf : X.fn x = true ∨ X.env.scope.names.lookup x = some .local := by first | exact .inl rfl | exact .inr rfl) (hp : i = 0 → cl.pin = none := by first | (intro _; assumption) | (intro h; cases h)) : DG cl X d (.Name x pos) (S.tName i) := ⟨_, pg_name hN hi hx hf, sg_name hp⟩
theorem dgs_nil : DGs cl X d [] [] := ⟨_, pgs_nil, sgs_nil⟩
theorem ds_for {tg it : Expr} {pi : Fv → Res (List T)} {tgs : T → Fv → Option Fv} (po : PassesOwn (model X.prog X.w) X.A X.env X.xe) (hi : DI cl X d W tg it pi) (hg : DG cl X d tg tgs) (hb : DB cl X d W sts s) (hc : X.calm = true := by rfl)
    (hs : ∀ x, foldedSetIterable it X.env x = pure x := by intro _; rfl) : DS cl X d W (.For tg it sts [] pos) (S.for_ tgs pi s) := by
  obtain ⟨t, a1, a2⟩ := hi
  obtain ⟨t1, b1, b2⟩ := hg
  obtain ⟨t2, c1, c2⟩ := hb
  exact ⟨_, ps_for po hc a1 b1 c1 hs, ss_for a2 b2 c2⟩
theorem ds_forX {tg it : Expr} {pi : Fv → Res (List T)} {tgs : T → Fv → Option Fv} (po : PassesOwn (model X.prog X.w) X.A X.env X.xe) (hi : DIF cl X d W tg it pi) (hg : DG cl X d tg tgs) (hb : DB cl X d W sts s) (hc : X.calm = true := by rfl)
    (hs : ∀ x, foldedSetIterable it X.env x = pure x := by intro _; rfl) : DS cl X d W (.For tg it sts [] pos) (S.forX tgs pi s) := by
  obtain ⟨t, a1, a2⟩ := hi
  obtain ⟨t1, b1, b2⟩ := hg
  obtain ⟨t2, c1, c2⟩ := hb
  exact ⟨_, ps_for po hc a1 b1 c1 hs, ss_forX a2 b2 c2⟩
theorem dif_rng1 {tg : Expr} (ha : DA cl X d W [e] a) (hm : X.mg "range" = none) (hg : Gl X "range" := by rfl) (hs : starEach [e] X.env = [(false, eval e X.env)] := by rfl) : DIF cl X d W tg (.Call (.Name "range" p1) [e] [] pos) (P.rng1 a) := by
  obtain ⟨t, a1, a2⟩ := ha
  exact ⟨_, pi_range1 hg hm a1 hs, sif_rng1 a2⟩
theorem dif_rng2 {tg : Expr} (ha : DA cl X d W [e, e2] a) (hm : X.mg "range" = none) (hg : Gl X "range" := by rfl) (hs : starEach [e, e2] X.env = [(false, eval e X.env), (false, eval e2 X.env)] := by rfl) (hs2 : starEach [e2] X.env = [(false, eval e2 X.env)] := by rfl) : DIF cl X d W tg (.Call (.Name "range" p1) [e, e2] [] pos) (P.rng2 a) := by
  obtain ⟨t, a1, a2⟩ := ha
  exact ⟨_, pi_range2 hg hm a1 hs hs2, sif_rng2 a2⟩
theorem DIF.di {tg it : Expr} {pi : Fv → Res (List T)} (h : DIF cl X d W tg it pi) : DI cl X d W tg it pi := by
  obtain ⟨t, a1, a2⟩ := h
  exact ⟨_, a1, a2.si⟩
theorem di_seq {tg : Expr} (h : DE cl X d W e p) : DI cl X d W tg e (P.items p) := by
  obtain ⟨t, a1, a2⟩ := h
  exact ⟨_, pi_seq a1, si_seq a2⟩
end
/-! ### a def -/
def fin : RS → Res T
  | .nx _ => .ok .non
  | .rt t => .ok t
  | .er e _ => .er e
  | _ => .stuck
/-- the frame at the entry -/
def ent (n : Nat) (ts : List T) : Fv := ts.map (fun t => some (.fz t)) ++ List.replicate (n - ts.length) none
def run (n : Nat) (s : Sx) (ts : List T) : Res T := fin (s (ent n ts))
section
variable {cl : Cl} {G : Ge}
theorem rel_start {d : Nat} {A0 : Al} {F0 H0 : Hp} {N : List Str} {ts : List T} {vs : List V} (ok : AOk A0 F0) (dep : ∀ g a, A0 g = some a → g.1 < d) (e : Ex F0 H0) (r : reps G A0 F0 ts vs) (hl : ts.length ≤ N.length) (hp : G.c.pin = none) : Rel G d A0 F0 H0 A0 (ent N.length ts) (L2.start N vs) F0 H0 where
  ok0 := ok
  dep0 := dep
  len := by
    unfold ent L2.start
    rw [List.length_append, List.length_append, List.length_map, List.length_map, List.length_replicate, List.length_replicate, r.length]
  agree := fun _ _ => rfl
  dep := fun g a z => Nat.le_of_lt (dep g a z)
  inj := ok.inj
  own := fun i a z => absurd (dep _ _ z) (Nat.lt_irrefl _)
  exF := Ex.refl _
  sub := e
  keep := Ex.refl _
  sep := fun _ h _ => h
  fz := fun i t h => by
    unfold ent at h
    by_cases hi : i < ts.length
    · rw [List.getElem?_append_left (by simpa using hi), List.getElem?_map] at h
      cases q : ts[i]? with
      | none => rw [q] at h; cases h
      | some u =>
        rw [q] at h
        cases h
        obtain ⟨v, hv, rv⟩ := r.get q
        refine ⟨v, ?_, rv⟩
        unfold L2.start
        rw [List.getElem?_append_left (by rw [List.length_map, r.length]; exact hi), List.getElem?_map, hv] <;> rfl
    · rw [List.getElem?_append_right (by simpa using hi), List.getElem?_replicate] at h
      split at h <;> cases h
  ol := fun i t h => by
    unfold ent at h
    by_cases hi : i < ts.length
    · rw [List.getElem?_append_left (by simpa using hi), List.getElem?_map] at h
      cases q : ts[i]? with
      | none => rw [q] at h; cases h
      | some u => rw [q] at h; cases h
    · rw [List.getElem?_append_right (by simpa using hi), List.getElem?_replicate] at h
      split at h <;> cases h
  oi := fun i c ns t h => by
    unfold ent at h
    by_cases hi : i < ts.length
    · rw [List.getElem?_append_left (by simpa using hi), List.getElem?_map] at h
      cases q : ts[i]? with
      | none => rw [q] at h; cases h
      | some u => rw [q] at h; cases h
    · rw [List.getElem?_append_right (by simpa using hi), List.getElem?_replicate] at h
      split at h <;> cases h
  od := fun i ks t h => by
    unfold ent at h
    by_cases hi : i < ts.length
    · rw [List.getElem?_append_left (by simpa using hi), List.getElem?_map] at h
      cases q : ts[i]? with
      | none => rw [q] at h; cases h
      | some u => rw [q] at h; cases h
    · rw [List.getElem?_append_right (by simpa using hi), List.getElem?_replicate] at h
      split at h <;> cases h
  pin := fun a z => by rw [hp] at z; cases z
/-- the body's reading at the entry -/
theorem body_ok {d : Nat} {A0 : Al} {F0 H : Hp} {N : List Str} {ts : List T} {vs : List V} {Q : VK} {E : XK} {t : TS} {s : Sx} (h : SS G d (fun cls dx _ H => E cls dx H) t s) (ok : AOk A0 F0) (dep : ∀ g a, A0 g = some a → g.1 < d) (e : Ex F0 H) (r : reps G A0 F0 ts vs) (hl : ts.length ≤ N.length) (hp : G.c.pin = none)
    (o : Out G A0 F0 H Q E (run N.length s ts)) : t { nx := fun _ H' => Q .non H', rt := Q } (L2.start N vs) H := by
  refine h A0 F0 H A0 (ent N.length ts) (L2.start N vs) F0 H _ (rel_start ok dep e r hl hp) ?_
  unfold run at o
  cases z : s (ent N.length ts) with
  | nx env => rw [z] at o; exact fun A σ F H R => o .non F H R.growF rfl
  | rt t => rw [z] at o; exact fun v F H g r => o v F H g r
  | er e env => rw [z] at o; exact fun A σ F H dx R x => o dx F H R.growF x
  | br env => rw [z] at o; exact o.elim
  | ct env => rw [z] at o; exact o.elim
  | stuck => rw [z] at o; exact o.elim
abbrev FnP (K : PySem.W.Frag) (x : Str) (st : Stmt) (f : Addr) (fd : FuncData) : Prop := FunD K x x (defArgs st) (defBody st) (defScope st) [] [] f fd
/-- the context of a def's body -/
abbrev XOf (P : Program) (w : World) (K : PySem.W.Frag) (mg : Str → Option Value) (base : Heap) (N : List Str) (qual : Str) (sc : Scope) (f : Addr) (cd : Value) (A : Around) (outer : List Env) (s : Shared) (H : Hp) (E : XK) : Cx := cxOf (L2.CX P w) P w K mg base N qual sc f cd A outer s H E
abbrev WOf (E : XK) : WX := fun cls dx _ H => E cls dx H
theorem tk_of {P : Program} {w : World} {K : PySem.W.Frag} {mg : Str → Option Value} {base : Heap} {N : List Str} {qual : Str} {sc : Scope} {f : Addr} {cd : Value} {A : Around} {outer : List Env} {s : Shared} {H : Hp} {E : XK} :
    Takes (XOf P w K mg base N qual sc f cd A outer s H E) (WOf E) := takes_of rfl rfl rfl rfl
theorem po_of {P : Program} {w : World} {K : PySem.W.Frag} {mg : Str → Option Value} {base : Heap} {N : List Str} {qual : Str} {sc : Scope} {f : Addr} {cd : Value} {A : Around} {outer : List Env} {s : Shared} {H : Hp} {E : XK} :
    PassesOwn (model P w) (XOf P w K mg base N qual sc f cd A outer s H E).A (XOf P w K mg base N qual sc f cd A outer s H E).env (XOf P w K mg base N qual sc f cd A outer s H E).xe := passes_of (X := XOf P w K mg base N qual sc f cd A outer s H E) rfl
theorem def_ok {P : Program} {w : World} {K : PySem.W.Frag} {mg : Str → Option Value} {base : Heap} {x qual : Str} {params : Arguments} {body : List Stmt} {scope : Scope} {f : Addr} {fd : FuncData} {N ps : List Str} {k n : Nat} {fT : Nat → List T → Res T} {sT : Nat → Sx}
    (F : FunD K x qual params body scope [] [] f fd) (S : FnScope N ps scope) (hn : n = ps.length) (hle : ps.length ≤ N.length) (p0 : cl.pin = none) (hf : ∀ d ts, fT d ts = run N.length (sT d) ts)
    (h : ∀ (d : Nat) (cdv : Value) (A : Around) (outer : List Env) (s : Shared) (H : Hp) (E : XK), Room k (A.deeper (envOfC qual scope s.heap.objs.size f cdv)) → DB cl (XOf P w K mg base N qual scope f cdv A outer s H E) d (WOf E) body (sT d)) :
    FnOk P w K mg base (L2.CX P w) (k + 1) f fd ps (spT ⟨K, cl⟩ n fT) := by
  subst hn
  refine F.ok S (fun vs H Q E h => h.1) (fun cdv A outer s H vs Q E hr hsp => ?_)
  obtain ⟨hl, d, A0, F0, ts, ok, dep, e, r, o⟩ := hsp
  obtain ⟨t, a1, a2⟩ := h d cdv A outer s H E hr
  refine ⟨t, a1, body_ok (N := N) a2 ok dep e r (by rw [← r.length, hl]; exact hle) p0 ?_⟩
  rw [← hf]
  exact o
/-- a def as its callers use it -/
structure Dok (cl : Cl) (P : Program) (w : World) (K : PySem.W.Frag) (mg : Str → Option Value) (base : Heap) (x : Str) (k n : Nat) (f : Nat → List T → Res T) : Prop where
  ex : ∃ fa fd ps, FnOk P w K mg base (L2.CX P w) k fa fd ps (spT ⟨K, cl⟩ n f) ∧ Binds K fd ps [] ∧ PySem.W.keepIn K (.ref fa) = true ∧ mg x = some (.ref fa)
theorem dok_of {P : Program} {w : World} {K : PySem.W.Frag} {mg : Str → Option Value} {base : Heap} {x : Str} {st : Stmt} {f : Addr} {fd : FuncData} {N ps : List Str} {k n : Nat} {fT : Nat → List T → Res T} {sT : Nat → Sx}
    (F : FnP K x st f fd) (S : FnScope N ps (defScope st)) (hn : n = ps.length) (hle : ps.length ≤ N.length) (p0 : cl.pin = none) (hm : mg x = some (.ref f)) (hf : ∀ d ts, fT d ts = run N.length (sT d) ts)
    (hb : ∀ (kV doc pm : Value) (an : Option Addr) (cdv ct : Value) (us : List Value), us.length = ps.length → bindArgs (PySem.W.fnOf x x (defArgs st) (defBody st) (defScope st) .none kV doc pm an cdv ct) ⟨us, []⟩ = pure (ps.zip us))
    (h : ∀ (d : Nat) (cdv : Value) (A : Around) (outer : List Env) (s : Shared) (H : Hp) (E : XK), Room k (A.deeper (envOfC x (defScope st) s.heap.objs.size f cdv)) → DB cl (XOf P w K mg base N x (defScope st) f cdv A outer s H E) d (WOf E) (defBody st) (sT d)) :
    Dok cl P w K mg base x (k + 1) n fT := ⟨f, fd, ps, def_ok F S hn hle p0 hf h, F.bindsN hb, F.kp, hm⟩
end
section
variable {cl : Cl} {X : Cx} {d k n : Nat} {W : WX} {e : Expr} {es : List Expr} {a : P.Ax} {x : Str} {f : Nat → List T → Res T} {p1 pos : Pos}
theorem de_d (D : Dok cl X.prog X.w X.K X.mg X.base x k n f) (hr : Room k X.A) (ha : DA cl X d W (e :: es) a) (hn : ∀ env xs, a env = .ok xs → xs.length = n) (tk : Takes X W := by first | exact tk_of | exact takes0) (hg : Gl X x := by rfl) (hdb : (x == ("__debug__" : Str)) = false := by decide)
    (he : starEach (e :: es) X.env = (false, eval e X.env) :: starEach es X.env := by rfl) (hpl : (backTo pos (starEach es X.env)).any (·.1) = false := by rfl) : DE cl X d W (.Call (.Name x p1) (e :: es) [] pos) (P.call (f (d + 1)) a) := by
  obtain ⟨fa, fd, ps, F, hb, hk, hm⟩ := D
  exact de_call F hr hm hk hb tk ha hn hg hdb he hpl
/-- a lot of turns -/
def fuel : Nat := 1000000000000
end
end Py

set_option Elab.async false
set_option linter.all false
set_option maxRecDepth 100000
set_option maxHeartbeats 4000000
namespace Py
open PySem L2 PySem.Spec PyProof.Rows Evl

/-! ### built-in calls, by values -/
def CRd (cl : Cl) (X : Cx) (v : Value) (f : List T → Option T) : Prop := ∃ r, CallR X v r ∧ ∀ A F H Q E ts vs, AOk A F → Ex F H → reps ⟨X.K, cl⟩ A F ts vs → Out ⟨X.K, cl⟩ A F H Q E (.of (f ts)) → r vs H Q
namespace B
def int : List T → Option T
  | [.int i] => some (.int i)
  | [.bl b] => some (.int (if b then 1 else 0))
  | _ => none
def len : List T → Option T
  | [.lst _ ts] => some (.int ts.length)
  | [.ro ts] => some (.int ts.length)
  | [.tup ts] => some (.int ts.length)
  | [.str s] => if lfit s.length = true then some (.int s.length) else none
  | _ => none
def abs : List T → Option T
  | [.int i] => some (.int (if i < 0 then -i else i))
  | _ => none
def min2 : List T → Option T
  | [.int i, .int j] => some (.int (if j < i then j else i))
  | _ => none
def max2 : List T → Option T
  | [.int i, .int j] => some (.int (if j > i then j else i))
  | _ => none
def list : List T → Option T
  | [t] => (match t.items with | some ts => some (.lst none ts) | none => none)
  | _ => none
def tuple : List T → Option T
  | [t] => (match t.items with | some ts => some (.tup ts) | none => none)
  | _ => none
def nums : List T → Option (List Int)
  | [] => some []
  | .int i :: ts => (match nums ts with | some l => some (i :: l) | none => none)
  | _ => none
def sum : List T → Option T
  | [.lst _ ts] => (match nums ts with | some l => some (.int l.sum) | none => none)
  | [.ro ts] => (match nums ts with | some l => some (.int l.sum) | none => none)
  | _ => none
def str : List T → Option T
  | [.int i] => if decide (i.natAbs.log2 < 1920) = true then some (.str (toString i)) else none
  | _ => none
end B
section
variable {cl : Cl} {X : Cx} {G : Ge} {A : Al} {F H : Hp} {Q : VK} {E : XK}
theorem reps1 {t : T} {vs : List V} (h : reps G A F [t] vs) : ∃ v, vs = [v] ∧ rep G A F t v := by
  obtain ⟨v, ws, rfl, r, e⟩ := h
  have e' : ws = [] := e
  subst e'
  exact ⟨v, rfl, r⟩
theorem reps2 {t u : T} {vs : List V} (h : reps G A F [t, u] vs) : ∃ v w, vs = [v, w] ∧ rep G A F t v ∧ rep G A F u w := by
  obtain ⟨v, ws, rfl, r, e⟩ := h
  obtain ⟨w, rfl, r2⟩ := reps1 e
  exact ⟨v, w, rfl, r, r2⟩
theorem ints_of : ∀ {ts : List T} {l : List Int} {vs : List V}, B.nums ts = some l → reps G A F ts vs → vs = l.map V.int
  | [], l, vs, h, r => by
    have e : vs = [] := r
    cases h
    exact e
  | t :: ts, l, vs, h, ⟨v, ws, e1, r1, r2⟩ => by
    cases t <;> (try cases h)
    rename_i i
    have h' : (match B.nums ts with | some l => some (i :: l) | none => none) = some l := h
    cases q : B.nums ts with
    | none => rw [q] at h'; cases h'
    | some l2 =>
      rw [q] at h'
      cases h'
      cases r1
      rw [e1, ints_of q r2] <;> rfl
theorem crd_int : CRd cl X (.type "int") B.int := ⟨_, call_int1, fun A F H Q E ts vs ok e r o => by
  unfold B.int at o
  split at o
  · obtain ⟨v, rfl, r1⟩ := reps1 r
    cases r1
    exact .inl ⟨_, rfl, Out.here o e rfl⟩
  · obtain ⟨v, rfl, r1⟩ := reps1 r
    cases r1
    exact .inr ⟨_, rfl, Out.here o e rfl⟩
  · exact o.elim⟩
theorem crd_len : CRd cl X (.builtin "len") B.len := ⟨_, CallR.or call_len_seq call_len_str, fun A F H Q E ts vs ok e r o => by
  unfold B.len at o
  split at o
  · obtain ⟨v, rfl, a, ws, rfl, h1, h2, h3⟩ := reps1 r
    refine .inl ⟨a, ws, rfl, .inl (SqL.of (e _ _ h1)), ?_⟩
    rw [h3.length]
    exact Out.here o e rfl
  · obtain ⟨v, rfl, a, ws, rfl, h1, h3⟩ := reps1 r
    refine .inl ⟨a, ws, rfl, .inl (ex_l e h1), ?_⟩
    rw [h3.length]
    exact Out.here o e rfl
  · obtain ⟨v, rfl, a, ws, rfl, h1, h3⟩ := reps1 r
    refine .inl ⟨a, ws, rfl, .inr (ex_s e h1), ?_⟩
    rw [h3.length]
    exact Out.here o e rfl
  · obtain ⟨v, rfl, r1⟩ := reps1 r
    cases r1
    rename_i s
    by_cases c : lfit s.length = true
    · rw [if_pos c] at o
      exact .inr ⟨s, rfl, of_decide_eq_true c, Out.here o e rfl⟩
    · rw [if_neg c] at o
      exact o.elim
  · exact o.elim⟩
theorem crd_abs : CRd cl X (.builtin "abs") B.abs := ⟨_, call_abs, fun A F H Q E ts vs ok e r o => by
  unfold B.abs at o
  split at o
  · obtain ⟨v, rfl, r1⟩ := reps1 r
    cases r1
    exact ⟨_, rfl, Out.here o e rfl⟩
  · exact o.elim⟩
theorem crd_min2 (hc : X.calm = true) : CRd cl X (.builtin "min") B.min2 := ⟨_, call_min2 hc, fun A F H Q E ts vs ok e r o => by
  unfold B.min2 at o
  split at o
  · obtain ⟨v, w, rfl, r1, r2⟩ := reps2 r
    cases r1; cases r2
    exact ⟨_, _, rfl, Out.here o e rfl⟩
  · exact o.elim⟩
theorem crd_max2 (hc : X.calm = true) : CRd cl X (.builtin "max") B.max2 := ⟨_, call_max2 hc, fun A F H Q E ts vs ok e r o => by
  unfold B.max2 at o
  split at o
  · obtain ⟨v, w, rfl, r1, r2⟩ := reps2 r
    cases r1; cases r2
    exact ⟨_, _, rfl, Out.here o e rfl⟩
  · exact o.elim⟩
theorem crd_list : CRd cl X (.type "list") B.list := ⟨_, call_list_of, fun A F H Q E ts vs ok e r o => by
  unfold B.list at o
  split at o
  · rename_i t
    obtain ⟨v, rfl, r1⟩ := reps1 r
    cases z : t.items with
    | none => simp only [z] at o; exact o.elim
    | some us =>
      simp only [z] at o
      obtain ⟨a, ws, rfl, s, r2⟩ := items_of r1 z
      exact ⟨a, ws, rfl, sq_mono e s, Out.lst o ok e r2⟩
  · exact o.elim⟩
theorem crd_tuple : CRd cl X (.type "tuple") B.tuple := ⟨_, call_tuple_of, fun A F H Q E ts vs ok e r o => by
  unfold B.tuple at o
  split at o
  · rename_i t
    obtain ⟨v, rfl, r1⟩ := reps1 r
    cases z : t.items with
    | none => simp only [z] at o; exact o.elim
    | some us =>
      simp only [z] at o
      obtain ⟨a, ws, rfl, s, r2⟩ := items_of r1 z
      refine ⟨a, ws, rfl, ?_⟩
      rcases s with s | s
      · exact .inl ⟨ex_l e s, Out.tup o e r2⟩
      · exact .inr ⟨ex_s e s, Out.here o e ⟨a, ws, rfl, s, r2⟩⟩
  · exact o.elim⟩
theorem crd_sum (hc : X.calm = true) : CRd cl X (.builtin "sum") B.sum := ⟨_, cr_sum hc, fun A F H Q E ts vs ok e r o => by
  unfold B.sum at o
  split at o
  · rename_i g us
    obtain ⟨v, rfl, a, ws, rfl, h1, h2, h3⟩ := reps1 r
    cases z : B.nums us with
    | none => simp only [z] at o; exact o.elim
    | some l =>
      simp only [z] at o
      have ew := ints_of z h3
      subst ew
      exact ⟨a, l, rfl, SqL.of (e _ _ h1), Out.here o e rfl⟩
  · rename_i us
    obtain ⟨v, rfl, a, ws, rfl, h1, h3⟩ := reps1 r
    cases z : B.nums us with
    | none => simp only [z] at o; exact o.elim
    | some l =>
      simp only [z] at o
      have ew := ints_of z h3
      subst ew
      exact ⟨a, l, rfl, ex_l e h1, Out.here o e rfl⟩
  · exact o.elim⟩
theorem crd_str : CRd cl X (.type "str") B.str := ⟨_, call_str_int, fun A F H Q E ts vs ok e r o => by
  unfold B.str at o
  split at o
  · rename_i i
    obtain ⟨v, rfl, r1⟩ := reps1 r
    cases r1
    by_cases c : decide (i.natAbs.log2 < 1920) = true
    · rw [if_pos c] at o
      exact ⟨i, rfl, of_decide_eq_true c, Out.here o e rfl⟩
    · rw [if_neg c] at o
      exact o.elim
  · exact o.elim⟩
variable {d : Nat} {W : WX} {e : Expr} {es : List Expr} {a : P.Ax} {f : List T → Option T} {x : Str} {p1 pos : Pos}
theorem se_cb {r : List V → Hp → VK → Prop} {tl : TA} (hr : ∀ A F H Q E ts vs, AOk A F → Ex F H → reps G A F ts vs → Out G A F H Q E (.of (f ts)) → r vs H Q) (hl : SA G d W tl a) : SE G d W (tCB r tl) (P.call (fun ts => .of (f ts)) a) := fun A env σ F H Q R e o =>
  hl A env σ F H _ R e (Outg.bind o fun xs vs F1 H1 g1 rs o1 => hr A F1 H1 Q _ xs vs (R.ok.mono g1.ex) g1.sub rs o1)
theorem de_b {id : String} (hr : CRd cl X (.builtin id) f) (hm : X.mg x = none) (hv : bootBuiltins x = some (.builtin id)) (ha : DA cl X d W (e :: es) a) (hg : Gl X x := by rfl) (hn : x ≠ "__name__" := by decide) (hdb : (x == ("__debug__" : Str)) = false := by decide)
    (he : starEach (e :: es) X.env = (false, eval e X.env) :: starEach es X.env := by rfl) (hpl : (backTo pos (starEach es X.env)).any (·.1) = false := by rfl) : DE cl X d W (.Call (.Name x p1) (e :: es) [] pos) (P.call (fun ts => .of (f ts)) a) := by
  obtain ⟨r, a1, a2⟩ := hr
  obtain ⟨t, c1, c2⟩ := ha
  exact ⟨_, pe_callB a1 hg hm hv c1 hn hdb he hpl, se_cb a2 c2⟩
theorem de_ty {id : String} (hr : CRd cl X (.type id) f) (hm : X.mg x = none) (hv : bootBuiltins x = some (.type id)) (ha : DA cl X d W (e :: es) a) (hg : Gl X x := by rfl) (hn : x ≠ "__name__" := by decide) (hdb : (x == ("__debug__" : Str)) = false := by decide)
    (he : starEach (e :: es) X.env = (false, eval e X.env) :: starEach es X.env := by rfl) (hpl : (backTo pos (starEach es X.env)).any (·.1) = false := by rfl) : DE cl X d W (.Call (.Name x p1) (e :: es) [] pos) (P.call (fun ts => .of (f ts)) a) := by
  obtain ⟨r, a1, a2⟩ := hr
  obtain ⟨t, c1, c2⟩ := ha
  exact ⟨_, pe_callTy a1 hg hm hv c1 hn hdb he hpl, se_cb a2 c2⟩
end

/-! ### slices -/
def P.opart (p : Option P.Ex1) : Fv → Res (Option Int) := match p with
  | none => fun _ => .ok none
  | some p => fun env => (p env).bind fun
    | .int i => .ok (some i)
    | _ => .stuck
def T.cut (t : T) (lo hi : Option Int) : Option T := match t with
  | .lst _ ts => some (.lst none ((ts.drop (HT.sIx ts.length 0 lo)).take (HT.sIx ts.length ts.length hi - HT.sIx ts.length 0 lo)))
  | .ro ts => some (.lst none ((ts.drop (HT.sIx ts.length 0 lo)).take (HT.sIx ts.length ts.length hi - HT.sIx ts.length 0 lo)))
  | _ => none
def P.cut (p : P.Ex1) (lo hi : Option P.Ex1) : P.Ex1 := fun env => (p env).bind fun t => (P.opart lo env).bind fun l => (P.opart hi env).bind fun u => .of (t.cut l u)
section
variable {cl : Cl} {X : Cx} {G : Ge} {d : Nat} {W : WX} {e e2 : Expr} {p q : P.Ex1} {te : TE} {pos p2 : Pos} {lo hi : Option Expr} {pl ph : Option P.Ex1}
def SO (G : Ge) (d : Nat) (W : WX) (to : TO) (p : Option P.Ex1) : Prop :=
  ∀ A env σ F H Q, RE G d A env σ F → Ex F H → Outg G A F H (fun _ (a b : Option Int) => b = a) Q (WE W σ) (P.opart p env) → to σ H Q
structure DO (cl : Cl) (X : Cx) (d : Nat) (W : WX) (e : Option Expr) (p : Option P.Ex1) : Prop where
  ex : ∃ to, PO X e to ∧ SO ⟨X.K, cl⟩ d W to p
theorem do_none : DO cl X d W none none := ⟨_, po_none, fun A env σ F H Q R e o => o none F H (Grow.refl e) rfl⟩
theorem do_some (h : DE cl X d W e p) : DO cl X d W (some e) (some p) := by
  obtain ⟨t, a1, a2⟩ := h
  refine ⟨_, po_some a1, fun A env σ F H Q R e o => a2 A env σ F H _ R e (Outg.bind o fun x v F1 H1 g1 rx o1 => ?_)⟩
  cases x <;> (try exact o1.elim)
  cases rx
  exact ⟨_, rfl, o1 _ F1 H1 (Grow.refl g1.sub) rfl⟩
theorem de_cut (h : DE cl X d W e p) (hl : DO cl X d W lo pl) (hh : DO cl X d W hi ph) : DE cl X d W (.Subscript e (.Slice lo hi none p2) pos) (P.cut p pl ph) := by
  obtain ⟨t, a1, a2⟩ := h
  obtain ⟨t1, b1, b2⟩ := hl
  obtain ⟨t2, c1, c2⟩ := hh
  refine ⟨_, pe_slice sl_list a1 b1 c1, fun A env σ F H Q R e o => a2 A env σ F H _ R e (Outg.bind o fun x v F1 H1 g1 rx o1 =>
    b2 A env σ F1 H1 _ (R.mono g1.ex) g1.sub (Outg.bind o1 fun l l' F2 H2 g2 el o2 => ?_))⟩
  subst el
  refine c2 A env σ F2 H2 _ ((R.mono g1.ex).mono g2.ex) g2.sub (Outg.bind o2 fun u u' F3 H3 g3 eu o3 => ?_)
  subst eu
  have R3 := ((R.mono g1.ex).mono g2.ex).mono g3.ex
  have rx3 := (rx.mono g2.ex).mono g3.ex
  cases x <;> (try exact o3.elim)
  · obtain ⟨aa, vs, rfl, h1, h2, h3⟩ := rx3
    refine ⟨aa, vs, rfl, SqL.of (g3.sub _ _ h1), ?_⟩
    refine Out.lst o3 R3.ok g3.sub ?_
    unfold cutV
    rw [h3.length]
    exact (h3.drop _).take _
  · obtain ⟨aa, vs, rfl, h1, h3⟩ := rx3
    refine ⟨aa, vs, rfl, ex_l g3.sub h1, ?_⟩
    refine Out.lst o3 R3.ok g3.sub ?_
    unfold cutV
    rw [h3.length]
    exact (h3.drop _).take _
end
/-! ### comprehensions of one for -/
def wipeE (env : Fv) : List Nat → Fv
  | [] => env
  | v :: vs => (wipeE env vs).set v none
namespace P
/-- one turn an item; nothing may be raised within -/
def turnsC (tg : T → Fv → Option Fv) (t : Bx) (p : Ex1) (env : Fv) : List T → Res (List T)
  | [] => .ok []
  | x :: xs => match tg x env with
    | some env1 => (match t env1 with
      | .ok b => if b = true then (match p env1 with
          | .ok y => (turnsC tg t p env xs).bind fun ys => .ok (y :: ys)
          | _ => .stuck) else turnsC tg t p env xs
      | _ => .stuck)
    | none => .stuck
def yes : Bx := fun _ => .ok true
def comp (own : List Nat) (tg : T → Fv → Option Fv) (pi : Fv → Res (List T)) (t : Bx) (p : Ex1) : Fv → Res (List T) := fun env => (pi env).bind fun xs => if lfit xs.length = true then turnsC tg t p (wipeE env own) xs else .stuck
def lc (own : List Nat) (tg : T → Fv → Option Fv) (pi : Fv → Res (List T)) (t : Bx) (p : Ex1) : Ex1 := fun env => (comp own tg pi t p env).bind fun ys => .ok (.lst none ys)
end P
section
variable {G : Ge} {d : Nat} {W : WX} {A : Al} {F H F1 H1 : Hp} {env : Fv} {σ : L2.St} {te : TE} {p : P.Ex1} {tt : TT} {b : P.Bx}
abbrev W0 : WX := fun _ _ _ _ => False
theorem wipe_get (σ : L2.St) : ∀ (vs : List Nat) (j : Nat), (wipe σ vs)[j]? = if j ∈ vs ∧ j < σ.length then some none else σ[j]?
  | [], j => by rw [if_neg (by simp)] <;> rfl
  | v :: vs, j => by
    show ((wipe σ vs).set v none)[j]? = _
    by_cases h : v = j
    · subst h
      by_cases hl : v < σ.length
      · rw [List.getElem?_set_self (by rw [wipe_length]; exact hl), if_pos ⟨List.mem_cons_self, hl⟩]
      · rw [List.getElem?_eq_none (by rw [List.length_set, wipe_length]; omega), if_neg (fun z => hl z.2), List.getElem?_eq_none (by omega)]
    · rw [List.getElem?_set_ne h, wipe_get σ vs j]
      have e : (j ∈ v :: vs ∧ j < σ.length) ↔ (j ∈ vs ∧ j < σ.length) := by
        rw [List.mem_cons]
        exact ⟨fun ⟨z, y⟩ => ⟨z.resolve_left (fun q => h q.symm), y⟩, fun ⟨z, y⟩ => ⟨.inr z, y⟩⟩
      by_cases c : j ∈ vs ∧ j < σ.length
      · rw [if_pos c, if_pos (e.mpr c)]
      · rw [if_neg c, if_neg (fun z => c (e.mp z))]
theorem wipe_eq {σ2 : L2.St} {vs : List Nat} (hl : σ2.length = σ.length) (h : ∀ j, j ∉ vs → σ2[j]? = (wipe σ vs)[j]?) : wipe σ2 vs = wipe σ vs := by
  refine List.ext_getElem? fun j => ?_
  rw [wipe_get, wipe_get, hl]
  by_cases c : j ∈ vs ∧ j < σ.length
  · rw [if_pos c, if_pos c]
  · rw [if_neg c, if_neg c]
    by_cases hj : j ∈ vs
    · have hlt : ¬ j < σ.length := fun z => c ⟨hj, z⟩
      rw [List.getElem?_eq_none (by omega), List.getElem?_eq_none (by omega)]
    · rw [h j hj, wipe_get, if_neg c]
theorem wipeE_length (env : Fv) : ∀ vs : List Nat, (wipeE env vs).length = env.length
  | [] => rfl
  | v :: vs => by
    show ((wipeE env vs).set v none).length = _
    rw [List.length_set, wipeE_length env vs]
theorem wipeE_get {env : Fv} : ∀ {vs : List Nat} {j : Nat} {s : Sl}, (wipeE env vs)[j]? = some (some s) → env[j]? = some (some s) ∧ j ∉ vs
  | [], j, s, h => ⟨h, by simp⟩
  | v :: vs, j, s, h => by
    have h' : ((wipeE env vs).set v none)[j]? = some (some s) := h
    by_cases c : v = j
    · subst c
      rw [List.getElem?_set] at h'
      rw [if_pos rfl] at h'
      split at h' <;> cases h'
    · rw [List.getElem?_set_ne c] at h'
      obtain ⟨a, b⟩ := wipeE_get h'
      exact ⟨a, by rw [List.mem_cons, not_or]; exact ⟨fun q => c q.symm, b⟩⟩
theorem rd_wipe {vs : List Nat} {j : Nat} {t : T} (h : rd d j (wipeE env vs) = some t) : rd d j env = some t ∧ j ∉ vs := by
  unfold rd at h ⊢
  split at h
  · rename_i u e
    obtain ⟨a, b⟩ := wipeE_get e
    rw [a]
    exact ⟨h, b⟩
  · rename_i u e
    obtain ⟨a, b⟩ := wipeE_get e
    rw [a]
    exact ⟨h, b⟩
  · rename_i c n u e
    obtain ⟨a, b⟩ := wipeE_get e
    rw [a]
    exact ⟨h, b⟩
  · rename_i n u e
    obtain ⟨a, b⟩ := wipeE_get e
    rw [a]
    exact ⟨h, b⟩
  · cases h
theorem RE.wipe (R : RE G d A env σ F) (vs : List Nat) : RE G d A (wipeE env vs) (L2.wipe σ vs) F where
  ok := R.ok
  len := by rw [wipeE_length, wipe_length]; exact R.len
  dep := R.dep
  slots := fun i t h => by
    obtain ⟨a, b⟩ := rd_wipe h
    obtain ⟨v, h1, h2⟩ := R.slots i t a
    refine ⟨v, ?_, h2⟩
    rw [wipe_get, if_neg (fun z => b z.1)]
    exact h1
/-- a target within a comprehension -/
def SC (G : Ge) (d : Nat) (own : List Nat) (g : TG) (tg : T → Fv → Option Fv) : Prop :=
  ∀ A env σ F H t v env1 (Q : L2.St → Hp → Prop), RE G d A env σ F → Ex F H → rep G A F t v → tg t env = some env1 → (∀ σ', RE G d A env1 σ' F → σ'.length = σ.length → (∀ j, j ∉ own → σ'[j]? = σ[j]?) → Q σ' H) → g v σ H Q
theorem sc_name {own : List Nat} {i : Nat} (hi : i ∈ own) : SC G d own (gName i) (S.tName i) := fun A env σ F H t v env1 Q R eH r e k => by
  unfold S.tName at e
  by_cases c : i < env.length
  · rw [if_pos c] at e
    cases e
    refine k _ ⟨R.ok, by rw [List.length_set, List.length_set]; exact R.len, R.dep, fun j u h => ?_⟩ (by rw [List.length_set]) fun j hj => ?_
    · by_cases q : i = j
      · subst q
        unfold rd at h
        rw [List.getElem?_set_self c] at h
        cases h
        exact ⟨v, List.getElem?_set_self (by rw [← R.len]; exact c), r⟩
      · have h2 : rd d j env = some u := by
          unfold rd at h ⊢
          rw [List.getElem?_set_ne q] at h
          exact h
        obtain ⟨w, h3, h4⟩ := R.slots j u h2
        exact ⟨w, by rw [List.getElem?_set_ne q]; exact h3, h4⟩
    · rw [List.getElem?_set_ne (fun q => hj (by rw [← q]; exact hi))]
  · rw [if_neg c] at e
    cases e
def SCs (G : Ge) (d : Nat) (own : List Nat) (g : TGs) (gs : List (T → Fv → Option Fv)) : Prop :=
  ∀ A env σ F H ts vs env1 (Q : L2.St → Hp → Prop), RE G d A env σ F → Ex F H → reps G A F ts vs → S.tNames gs ts env = some env1 → (∀ σ', RE G d A env1 σ' F → σ'.length = σ.length → (∀ j, j ∉ own → σ'[j]? = σ[j]?) → Q σ' H) → g vs σ H Q
theorem scs_nil {own : List Nat} : SCs G d own gNil [] := fun A env σ F H ts vs env1 Q R eH r e k => by
  cases ts with
  | nil =>
    have r' : vs = [] := r
    cases e
    exact ⟨r', k σ R rfl fun _ _ => rfl⟩
  | cons _ _ => cases e
theorem scs_cons {own : List Nat} {g : TG} {gg : TGs} {tg : T → Fv → Option Fv} {tgs : List (T → Fv → Option Fv)} (h1 : SC G d own g tg) (h2 : SCs G d own gg tgs) : SCs G d own (gCons g gg) (tg :: tgs) := fun A env σ F H ts vs env1 Q R eH r e k => by
  cases ts with
  | nil => cases e
  | cons t ts =>
    obtain ⟨v, ws, rfl, r1, r2⟩ := r
    obtain ⟨env2, e1, e2⟩ := Option.bind_eq_some_iff.mp (show (tg t env).bind (fun env => S.tNames tgs ts env) = some env1 from e)
    exact ⟨v, ws, rfl, h1 A env σ F H t v env2 _ R eH r1 e1 fun σ' R' h3 h4 => h2 A env2 σ' F H ts ws env1 Q R' eH r2 e2 fun σ2 R2 k3 k4 => k σ2 R2 (k3.trans h3) fun j hj => (k4 j hj).trans (h4 j hj)⟩
theorem sc_tup {own : List Nat} {n : Nat} {gg : TGs} {tgs : List (T → Fv → Option Fv)} (h : SCs G d own gg tgs) (hn : n = tgs.length) : SC G d own (gTup G.K n gg) (S.tTup tgs) := fun A env σ F H t v env1 Q R eH r e k => by
  cases t <;> (try cases e)
  rename_i ts
  obtain ⟨a, vs, rfl, h1, h2⟩ := r
  have e' : S.tNames tgs ts env = some env1 := e
  have hlen : ∀ (tgs : List (T → Fv → Option Fv)) (ts : List T) (env : Fv), S.tNames tgs ts env = some env1 → ts.length = tgs.length := by
    intro tgs
    induction tgs with
    | nil =>
      intro ts env e
      cases ts with
      | nil => rfl
      | cons _ _ => cases e
    | cons tg tgs ih =>
      intro ts env e
      cases ts with
      | nil => cases e
      | cons t ts =>
        obtain ⟨env2, e1, e2⟩ := Option.bind_eq_some_iff.mp (show (tg t env).bind (fun env => S.tNames tgs ts env) = some env1 from e)
        rw [List.length_cons, List.length_cons, ih ts env2 e2]
  exact ⟨a, vs, rfl, ex_s eH h1, by rw [h2.length, hn]; exact hlen tgs ts env e', h A env σ F H ts vs env1 Q R eH h2 e' k⟩
/-- where a comprehension stands -/
def CompAt (G : Ge) (A : Al) (F1 H1 : Hp) (tg : T → Fv → Option Fv) (b : P.Bx) (p : P.Ex1) (env : Fv) (xs all : List T) (Dl : Addr) (k : Nat) (H : Hp) : Prop :=
  ∃ F acc done rest, Grow F1 H1 F H ∧ F Dl = none ∧ H Dl = some (.lst acc) ∧ reps G A F done acc ∧ done.length ≤ k ∧ P.turnsC tg b p env (xs.drop k) = .ok rest ∧ all = done ++ rest
theorem sn_lc {wi : TI} {g : TG} {pi : Fv → Res (List T)} {own : List Nat} {tg : T → Fv → Option Fv} (hi : SI G d W wi pi) (hg : SC G d own g tg) (ht : ST G d W0 tt b) (he : SE G d W0 te p) : SN G d W (tLc wi g tt te own) (P.comp own tg pi b p) := fun A env σ F H Q R e o => by
  refine hi A env σ F H _ R e ?_
  have o' : Outg G A F H (fun F1 (ts : List T) (b : Addr × List V) => reps G A F1 ts b.2 ∧ F1 b.1 = none) (fun b H1 => H b.1 = none → H1 b.1 = some (.lst b.2) → Q (.ref b.1) H1) (WE W σ) ((pi env).bind fun xs => if lfit xs.length = true then P.turnsC tg b p (wipeE env own) xs else .stuck) := o
  cases z : pi env with
  | er e => rw [z] at o'; exact o'
  | stuck => rw [z] at o'; exact o'
  | ok xs =>
    rw [z] at o'
    intro J F1 H1 g1 hJ Dl hD
    have o1 : Outg G A F H (fun F1 (ts : List T) (b : Addr × List V) => reps G A F1 ts b.2 ∧ F1 b.1 = none) (fun b H1 => H b.1 = none → H1 b.1 = some (.lst b.2) → Q (.ref b.1) H1) (WE W σ) (if lfit xs.length = true then P.turnsC tg b p (wipeE env own) xs else .stuck) := o'
    obtain ⟨hz, o2⟩ := Outg.if_ o1
    have hz' : xs.length ≤ sizeLine := of_decide_eq_true hz
    cases y : P.turnsC tg b p (wipeE env own) xs with
    | er e =>
      -- nothing is raised
      exfalso
      have nx : ∀ xs, P.turnsC tg b p (wipeE env own) xs ≠ .er e := by
        intro xs
        induction xs with
        | nil => intro h; cases h
        | cons x xs ih =>
          intro h
          have h' : (match tg x (wipeE env own) with
            | some env1 => (match b env1 with
              | .ok b => if b = true then (match p env1 with
                  | .ok y => (P.turnsC tg ‹P.Bx› p (wipeE env own) xs).bind fun ys => .ok (y :: ys)
                  | _ => .stuck) else P.turnsC tg ‹P.Bx› p (wipeE env own) xs
              | _ => .stuck)
            | none => .stuck) = Res.er e := h
          split at h'
          · split at h'
            · split at h'
              · split at h'
                · cases q : P.turnsC tg b p (wipeE env own) xs with
                  | ok ys => rw [q] at h'; cases h'
                  | er e2 => rw [q] at h'; cases h'; exact ih q
                  | stuck => rw [q] at h'; cases h'
                · cases h'
              · exact ih h'
            · cases h'
          · cases h'
      exact nx xs y
    | stuck => rw [y] at o2; exact o2.elim
    | ok all =>
      rw [y] at o2
      have hF1 : F1 Dl = none := none_of_ex g1.sub hD
      have hH : H Dl = none := none_of_ex g1.keep hD
      refine ⟨fun k m H' => m = xs.length - k ∧ k ≤ xs.length ∧ CompAt G A F1 H1 tg b p (wipeE env own) xs all Dl k H', ⟨xs.length, by simp, Nat.zero_le _, F1, [], [], all, Grow.junk g1.sub hD, hF1, upd_same, rfl, Nat.le_refl _, y, rfl⟩, ?_⟩
      rintro k m H' ⟨rfl, hk, Fk, acc, done, rest, gk, hFk, hHk, rk, lk, tk, ek⟩
      have exk : Ex F1 Fk := gk.ex
      by_cases hlt : k < xs.length
      · refine .inr ⟨hJ.go k H' (exk.trans gk.sub) hlt, CompAt G A F1 H1 tg b p (wipeE env own) xs all Dl (k + 1), fun H'' p' => ⟨xs.length - (k + 1), by omega, rfl, hlt, p'⟩, fun x H2 yl => ?_⟩
        have hx : xs[k]? = some xs[k] := List.getElem?_eq_getElem hlt
        obtain ⟨F2, g2, rx⟩ := hJ.yld k Fk H' x H2 _ exk gk.sub hx yl
        rw [List.drop_eq_getElem_cons hlt] at tk
        have tk' : (match tg xs[k] (wipeE env own) with
          | some env1 => (match b env1 with
            | .ok bb => if bb = true then (match p env1 with
                | .ok y => (P.turnsC tg b p (wipeE env own) (xs.drop (k + 1))).bind fun ys => .ok (y :: ys)
                | _ => .stuck) else P.turnsC tg b p (wipeE env own) (xs.drop (k + 1))
            | _ => .stuck)
          | none => .stuck) = Res.ok rest := tk
        cases q : tg xs[k] (wipeE env own) with
        | none => rw [q] at tk'; cases tk'
        | some env1 =>
          simp only [q] at tk'
          have Rw : RE G d A (wipeE env own) (L2.wipe σ own) F2 := ((R.wipe own).mono (g1.ex.trans (exk.trans g2.ex)))
          refine hg A _ _ F2 H2 _ x env1 _ Rw g2.sub rx q fun σ' R' hl hw => ⟨wipe_eq (by rw [hl, wipe_length]) hw, ?_⟩
          refine ht A env1 σ' F2 H2 _ R' g2.sub ?_
          cases q2 : b env1 with
          | er e => simp only [q2] at tk'; cases tk'
          | stuck => simp only [q2] at tk'; cases tk'
          | ok bb =>
            simp only [q2] at tk'
            intro bv F3 H3 g3 eb
            subst eb
            have gA : Grow F1 H1 F3 H3 := (gk.trans g2).trans g3
            have hF3 : F3 Dl = none := (g2.trans g3).sep Dl hFk ⟨_, hHk, fun _ y => nomatch y⟩
            have hH3 : H3 Dl = some (.lst acc) := g3.keep _ _ (g2.keep _ _ hHk)
            cases bb with
            | false =>
              exact ⟨F3, acc, done, rest, gA, hF3, hH3, rk.mono (g2.ex.trans g3.ex), Nat.le_succ_of_le lk, tk', ek⟩
            | true =>
              show te σ' H3 _
              have tk2 : (match p env1 with
                | .ok y => (P.turnsC tg b p (wipeE env own) (xs.drop (k + 1))).bind fun ys => .ok (y :: ys)
                | _ => .stuck) = Res.ok rest := tk'
              refine he A env1 σ' F3 H3 _ (R'.mono g3.ex) g3.sub ?_
              cases q3 : p env1 with
              | er e => simp only [q3] at tk2; cases tk2
              | stuck => simp only [q3] at tk2; cases tk2
              | ok yt =>
                simp only [q3] at tk2
                intro yv F4 H4 g4 ry
                cases q4 : P.turnsC tg b p (wipeE env own) (xs.drop (k + 1)) with
                | er e => rw [q4] at tk2; cases tk2
                | stuck => rw [q4] at tk2; cases tk2
                | ok ys =>
                  rw [q4] at tk2
                  cases tk2
                  have hF4 : F4 Dl = none := g4.sep Dl hF3 ⟨_, hH3, fun _ y => nomatch y⟩
                  have hH4 : H4 Dl = some (.lst acc) := g4.keep _ _ hH3
                  have gB := gA.trans g4
                  have rk4 := (rk.mono (g2.ex.trans g3.ex)).mono g4.ex
                  refine ⟨acc, hH4, ?_, F4, acc ++ [yv], done ++ [yt], ys, ⟨gB.ex, fun a o2 h2 => ?_, fun a o2 h2 => ?_, gB.sep⟩, hF4, upd_same, rk4.append (reps.one ry), ?_, q4, ?_⟩
                  · have l := rk4.length
                    rw [l]
                    omega
                  · rw [upd_ne (fun c => by rw [c, hF4] at h2; cases h2)]
                    exact gB.sub a o2 h2
                  · rw [upd_ne (fun c => by rw [c, hD] at h2; cases h2)]
                    exact gB.keep a o2 h2
                  · rw [List.length_append, List.length_singleton]
                    omega
                  · rw [ek, List.append_assoc] <;> rfl
      · have ek2 : k = xs.length := by omega
        subst ek2
        refine .inl ⟨hJ.stop _ H' (exk.trans gk.sub) (Nat.le_refl _), ?_⟩
        rw [List.drop_eq_nil_of_le (Nat.le_refl _)] at tk
        cases tk
        rw [List.append_nil] at ek
        subst ek
        exact o2 (Dl, acc) Fk H' (g1.trans gk) ⟨rk, hFk⟩ hH hHk
end
end Py

set_option Elab.async false
set_option linter.all false
set_option maxRecDepth 100000
set_option maxHeartbeats 4000000
namespace Py
open PySem L2 PySem.Spec PyProof.Rows Evl

/-! ### the readings that say just what is asked -/
def cE (G : Ge) (d : Nat) (W : WX) (p : P.Ex1) : TE := fun σ H Q => ∃ A env F, RE G d A env σ F ∧ Ex F H ∧ Out G A F H Q (WE W σ) (p env)
def cT (G : Ge) (d : Nat) (W : WX) (p : P.Bx) : TT := fun σ H Q => ∃ A env F, RE G d A env σ F ∧ Ex F H ∧ OutB G A F H Q (WE W σ) (p env)
def cC (G : Ge) (d : Nat) (own : List Nat) (tg : T → Fv → Option Fv) : TG := fun v σ H Q => ∃ A env F t env1, RE G d A env σ F ∧ Ex F H ∧ rep G A F t v ∧ tg t env = some env1 ∧ (∀ σ', RE G d A env1 σ' F → σ'.length = σ.length → (∀ j, j ∉ own → σ'[j]? = σ[j]?) → Q σ' H)
def cI (G : Ge) (d : Nat) (W : WX) (p : Fv → Res (List T)) : TI := fun σ H Q => ∃ A env F, RE G d A env σ F ∧ Ex F H ∧ Outg G A F H (ItIs G A) Q (WE W σ) (p env)
section
variable {G : Ge} {d : Nat} {W : WX} {p : P.Ex1} {b : P.Bx} {own : List Nat} {tg : T → Fv → Option Fv} {pi : Fv → Res (List T)}
theorem se_cE : SE G d W (cE G d W p) p := fun A env σ F H Q R e o => ⟨A, env, F, R, e, o⟩
theorem st_cT : ST G d W (cT G d W b) b := fun A env σ F H Q R e o => ⟨A, env, F, R, e, o⟩
theorem sc_cC : SC G d own (cC G d own tg) tg := fun A env σ F H t v env1 Q R e r q k => ⟨A, env, F, t, env1, R, e, r, q, k⟩
theorem si_cI : SI G d W (cI G d W pi) pi := fun A env σ F H Q R e o => ⟨A, env, F, R, e, o⟩
end
structure DC (cl : Cl) (X : Cx) (d : Nat) (own : List Nat) (e : Expr) (tg : T → Fv → Option Fv) : Prop where
  ex : ∃ g, PG X e g ∧ SC ⟨X.K, cl⟩ d own g tg
structure DCs (cl : Cl) (X : Cx) (d : Nat) (own : List Nat) (e : List Expr) (tg : List (T → Fv → Option Fv)) : Prop where
  ex : ∃ g, PGs X e g ∧ SCs ⟨X.K, cl⟩ d own g tg
structure DTs (cl : Cl) (X : Cx) (d : Nat) (W : WX) (e : List Expr) (p : P.Bx) : Prop where
  ex : ∃ te, PTs X e te ∧ ST ⟨X.K, cl⟩ d W te p
section
variable {cl : Cl} {X : Cx} {d : Nat} {W : WX} {e e1 : Expr} {es : List Expr} {p : P.Ex1} {b : P.Bx} {own : List Nat} {tg : T → Fv → Option Fv} {tgs : List (T → Fv → Option Fv)} {pi : Fv → Res (List T)} {pos : Pos}
theorem DE.pe (h : DE cl X d W e p) : PE X e (cE ⟨X.K, cl⟩ d W p) := by
  obtain ⟨te, a1, a2⟩ := h
  exact ⟨fun pins s σ H Q I ⟨A, env, F, R, e, o⟩ => a1.run pins s σ H Q I (a2 A env σ F H Q R e o)⟩
theorem DTs.pt (h : DTs cl X d W es b) : PTs X es (cT ⟨X.K, cl⟩ d W b) := by
  obtain ⟨te, a1, a2⟩ := h
  exact ⟨fun pins s σ H Q I ⟨A, env, F, R, e, o⟩ => a1.run pins s σ H Q I (a2 A env σ F H Q R e o)⟩
theorem DC.pg (h : DC cl X d own e tg) : PG X e (cC ⟨X.K, cl⟩ d own tg) := by
  obtain ⟨te, a1, a2⟩ := h
  exact ⟨fun pins s σ H v u Q I r ⟨A, env, F, t, env1, R, e, r2, q, k⟩ => a1.run pins s σ H v u Q I r (a2 A env σ F H t v env1 Q R e r2 q k)⟩
theorem DI.pI {t : Expr} (h : DI cl X d W t e pi) : PI X t e (cI ⟨X.K, cl⟩ d W pi) := by
  obtain ⟨te, a1, a2⟩ := h
  exact ⟨fun pins s σ H Q I ⟨A, env, F, R, e, o⟩ => a1.run pins s σ H Q I (a2 A env σ F H Q R e o)⟩
theorem dts_nil : DTs cl X d W [] P.yes := ⟨_, pts_nil, fun A env σ F H Q R e o => OutB.here o e⟩
theorem dts_one (h : DT cl X d W e b) : DTs cl X d W [e] b := by
  obtain ⟨te, a1, a2⟩ := h
  exact ⟨_, pts_one a1, a2⟩
theorem dc_name {i : Nat} {x : Str} (ho : i ∈ own) (hN : X.N.Nodup) (hi : X.N[i]? = some x := by rfl) (hx : Loc X.env.scope x := by first | exact Or.inl rfl | exact Or.inr rfl) (hf : X.fn x = true ∨ X.env.scope.names.lookup x = some .local := by first | exact .inl rfl | exact .inr rfl) : DC cl X d own (.Name x pos) (S.tName i) := ⟨_, pg_name hN hi hx hf, sc_name ho⟩
theorem dcs_nil : DCs cl X d own [] [] := ⟨_, pgs_nil, scs_nil⟩
end
section
variable {cl : Cl} {X : Cx} {d : Nat} {W : WX} {elt iter tg : Expr} {ifs : List Expr} {p : P.Ex1} {b : P.Bx} {own : List (Str × Nat)} {tgT : T → Fv → Option Fv} {pi : Fv → Res (List T)} {pos spos py : Pos} {scope : Scope}
/-- the context within a comprehension -/
abbrev XBlk (X : Cx) (sc : Scope) (s : Shared) (H : Hp) (C : Addr) (c : List (Str × Addr)) (fp : List Addr) : Cx := X.blk s H sc (compEnvC sc c C X.env) fp
theorem dn_lc (hN : X.N.Nodup) (hi : DI cl X d W tg iter pi) (ok : BlkOk X.N X.env.scope scope own)
    (hg : ∀ (s : Shared) (H : Hp) (C : Addr) (c : List (Str × Addr)) (fp : List Addr), DC cl (XBlk X scope s H C c fp) d (own.map (·.2)) tg tgT) (ht : ∀ (s : Shared) (H : Hp) (C : Addr) (c : List (Str × Addr)) (fp : List Addr), DTs cl (XBlk X scope s H C c fp) d W0 ifs b)
    (he : ∀ (s : Shared) (H : Hp) (C : Addr) (c : List (Str × Addr)) (fp : List Addr), DE cl (XBlk X scope s H C c fp) d W0 elt p) (hc : X.calm = true := by rfl) (hs : ∀ x, foldedSetIterable iter X.env x = pure x := by intro _; rfl) :
    DN cl X d W (.ListComp elt [⟨tg, iter, ifs, 0⟩] scope pos) (P.comp (own.map (·.2)) tgT pi b p) :=
  ⟨_, pe_lc hc hN hi.pI ok (fun s H C c fp => (hg s H C c fp).pg) (fun s H C c fp => (ht s H C c fp).pt) (fun s H C c fp => (he s H C c fp).pe) hs, sn_lc si_cI sc_cC st_cT se_cE⟩
theorem DN.de {e : Expr} {pn : Fv → Res (List T)} (h : DN cl X d W e pn) : DE cl X d W e (fun env => (pn env).bind fun ts => .ok (.lst none ts)) := by
  obtain ⟨te, a1, a2⟩ := h
  exact ⟨_, a1, a2.se⟩
/-- y = [..], frozen -/
theorem ds_asgLc {i : Nat} {y : Str} (hN : X.N.Nodup) (hi : DI cl X d W tg iter pi) (ok : BlkOk X.N X.env.scope scope own)
    (hg : ∀ (s : Shared) (H : Hp) (C : Addr) (c : List (Str × Addr)) (fp : List Addr), DC cl (XBlk X scope s H C c fp) d (own.map (·.2)) tg tgT) (ht : ∀ (s : Shared) (H : Hp) (C : Addr) (c : List (Str × Addr)) (fp : List Addr), DTs cl (XBlk X scope s H C c fp) d W0 ifs b)
    (he : ∀ (s : Shared) (H : Hp) (C : Addr) (c : List (Str × Addr)) (fp : List Addr), DE cl (XBlk X scope s H C c fp) d W0 elt p) (hsw : swapsWith (.ListComp elt [⟨tg, iter, ifs, 0⟩] scope pos) (some (.Name y py)) spos.line X.env = pure true) (hy : X.N[i]? = some y := by rfl) (hyl : X.env.scope.names.lookup y = some .local := by rfl) (hc : X.calm = true := by rfl) (hs : ∀ x, foldedSetIterable iter X.env x = pure x := by intro _; rfl) (hp : i = 0 → cl.pin = none := by first | (intro _; assumption) | (intro h; cases h)) :
    DS cl X d W (.Assign [.Name y py] (.ListComp elt [⟨tg, iter, ifs, 0⟩] scope pos) spos) (S.asg i (P.lc (own.map (·.2)) tgT pi b p)) :=
  ⟨_, ps_setLc hc hN hy hyl hsw hi.pI ok (fun s H C c fp => (hg s H C c fp).pg) (fun s H C c fp => (ht s H C c fp).pt) (fun s H C c fp => (he s H C c fp).pe) hs, ss_asg (SN.se (sn_lc si_cI sc_cC st_cT se_cE)) hp⟩
theorem ds_newLc {i : Nat} {y : Str} (hN : X.N.Nodup) (hi : DI cl X d W tg iter pi) (ok : BlkOk X.N X.env.scope scope own)
    (hg : ∀ (s : Shared) (H : Hp) (C : Addr) (c : List (Str × Addr)) (fp : List Addr), DC cl (XBlk X scope s H C c fp) d (own.map (·.2)) tg tgT) (ht : ∀ (s : Shared) (H : Hp) (C : Addr) (c : List (Str × Addr)) (fp : List Addr), DTs cl (XBlk X scope s H C c fp) d W0 ifs b)
    (he : ∀ (s : Shared) (H : Hp) (C : Addr) (c : List (Str × Addr)) (fp : List Addr), DE cl (XBlk X scope s H C c fp) d W0 elt p) (hsw : swapsWith (.ListComp elt [⟨tg, iter, ifs, 0⟩] scope pos) (some (.Name y py)) spos.line X.env = pure true) (hy : X.N[i]? = some y := by rfl) (hyl : X.env.scope.names.lookup y = some .local := by rfl) (hc : X.calm = true := by rfl) (hs : ∀ x, foldedSetIterable iter X.env x = pure x := by intro _; rfl) (hp : i = 0 → cl.pin = none := by first | (intro _; assumption) | (intro h; cases h)) :
    DS cl X d W (.Assign [.Name y py] (.ListComp elt [⟨tg, iter, ifs, 0⟩] scope pos) spos) (S.new i (P.comp (own.map (·.2)) tgT pi b p)) :=
  ⟨_, ps_setLc hc hN hy hyl hsw hi.pI ok (fun s H C c fp => (hg s H C c fp).pg) (fun s H C c fp => (ht s H C c fp).pt) (fun s H C c fp => (he s H C c fp).pe) hs, ss_new (sn_lc si_cI sc_cC st_cT se_cE) hp⟩
end
end Py

set_option Elab.async false
set_option linter.all false
set_option maxRecDepth 100000
set_option maxHeartbeats 4000000
namespace Py
open PySem L2 PySem.Spec PyProof.Rows Evl

/-! ### isinstance, a built-in class -/
/-- the name of a tree's class, if it is a built-in one -/
def T.tyn : T → Option String
  | .non => some "NoneType"
  | .bl _ => some "bool"
  | .int _ => some "int"
  | .str _ => some "str"
  | .lst _ _ => some "list"
  | .ro _ => none
  | .tup _ => some "tuple"
  | .ins _ _ _ _ => none
  | .dct _ _ _ => none
  | .exn _ _ _ => none
def T.isi (c : String) (t : T) : Option T := match t.tyn with
  | some n => (kitB n c).map .bl
  | none => none
section
variable {cl : Cl} {X : Cx} {G : Ge} {A : Al} {F H : Hp} {Q : VK} {E : XK} {d : Nat} {W : WX} {e : Expr} {p : P.Ex1} {pos p1 p2 : Pos} {c : String} {xc : Str}
theorem tyx_of {t : T} {v : V} {n : String} (h : rep G A F t v) (q : t.tyn = some n) : TyX G.K F v (.type n) := by
  cases t <;> cases q
  · cases h; exact .base .non
  · cases h; exact .base (.bl _)
  · cases h; exact .base (.int _)
  · cases h; exact .base (.str _)
  · obtain ⟨a, vs, rfl, h2, _⟩ := h
    exact .base (.lst h2)
  · obtain ⟨a, vs, rfl, h2, _⟩ := h
    exact .base (.tup h2)
theorem tyx_mono {K : PySem.W.Frag} {v : V} {n : String} (e : Ex F H) (h : TyX K F v (.type n)) : TyX K H v (.type n) := by
  cases h with
  | base h =>
    cases h with
    | non => exact .base .non
    | bl b => exact .base (.bl b)
    | int b => exact .base (.int b)
    | str b => exact .base (.str b)
    | flt b => exact .base (.flt b)
    | lst h => exact .base (.lst (e _ _ h))
    | frz h => exact .base (.frz (e _ _ h))
    | tup h => exact .base (.tup (e _ _ h))
    | dK h => exact .base (.dK (e _ _ h))
    | dT h => exact .base (.dT (e _ _ h))
  | byt b => exact .byt b
  | set h => exact .set (e _ _ h)
  | kList h k => exact .kList h k
  | kTuple h k => exact .kTuple h k
  | kDict h k => exact .kDict h k
  | fTuple h => exact .fTuple (e _ _ h)
  | fDict h => exact .fDict (e _ _ h)
theorem de_isi (hm : X.mg "isinstance" = none) (hc : X.mg xc = none) (hv : bootBuiltins xc = some (.type c)) (h : DE cl X d W e p) (hn : xc ≠ "__name__" := by decide) (hd : (xc == ("__debug__" : Str)) = false := by decide) (hg : Gl X "isinstance" := by rfl) (hg2 : Gl X xc := by rfl)
    (he : starEach [e, .Name xc p2] X.env = (false, eval e X.env) :: starEach [.Name xc p2] X.env := by rfl) (he2 : starEach [.Name xc p2] X.env = (false, eval (.Name xc p2) X.env) :: starEach [] X.env := by rfl) (hpl : (backTo pos (starEach [.Name xc p2] X.env)).any (·.1) = false := by rfl) :
    DE cl X d W (.Call (.Name "isinstance" p1) [e, .Name xc p2] [] pos) (P.un (T.isi c) p) := by
  obtain ⟨te, a1, a2⟩ := h
  refine ⟨_, pe_callB call_isi hg hm (by decide +kernel) (pa_cons a1 (pa_cons (pe_bltn (v := .ty c) hg2 hc hv rfl hn hd) pa_nil he2) he) (by decide) (by decide) he hpl, fun A env σ F H Q R e o => a2 A env σ F H _ R e (Outg.bind o fun x v F1 H1 g1 rx o1 => ?_)⟩
  unfold T.isi at o1
  cases q : x.tyn with
  | none => rw [q] at o1; exact o1.elim
  | some n =>
    rw [q] at o1
    cases q2 : kitB n c with
    | none => simp only [q2] at o1; exact o1.elim
    | some b =>
      simp only [q2] at o1
      exact ⟨v, .ty c, .type n, .type c, b, rfl, .ty c, tyx_mono g1.sub (tyx_of rx q), kit_ty q2, Out.here o1 g1.sub rfl⟩
end
end Py

set_option Elab.async false
set_option linter.all false
set_option maxRecDepth 100000
set_option maxHeartbeats 4000000
namespace Py
open PySem L2 PySem.Spec PyProof.Rows Evl

/-! ### a class of errors -/
def oexB (K : PySem.W.Frag) (C : Addr) : Bool := (match K.lookup C with
  | some ⟨.type "type", _, .cls cd, sl⟩ => (match cd.mro, sl.toList with
    | .ref C' :: bm, [_, _, _, _, some (.builtin n), _] => C' == C && n == "ValueError.__new__" && !cd.hasDel && cd.hasDict && PySem.HandSPX.refsVE bm
    | _, _ => false)
  | _ => false) && (He.eqO (PySem.W.findIn K (.ref C) "__setattr__") (some (some (.builtin "object.__setattr__"))) && (decide (PySem.W.subIn K (.ref C) (.type "BaseException") = some true) && (decide (PySem.W.typeIn K (.ref C) = some (.type "type")) && PySem.W.keepIn K (.ref C))))
theorem oexB_ok {K : PySem.W.Frag} {C : Addr} (h : oexB K C = true) : OexC K C := by
  obtain ⟨h1, h⟩ := band h
  obtain ⟨h2, h⟩ := band h
  obtain ⟨h3, h⟩ := band h
  obtain ⟨h4, h5⟩ := band h
  refine ⟨?_, He.eqO_ok h2, of_decide_eq_true h3, of_decide_eq_true h4, h5⟩
  split at h1
  · rename_i dd cd sl ho
    split at h1
    · rename_i C' bm k0 k1 k2 k3 n k5 hm hs
      simp only [Bool.and_eq_true, beq_iff_eq, Bool.not_eq_true'] at h1
      obtain ⟨⟨⟨⟨rfl, rfl⟩, hdel⟩, hdi⟩, ht⟩ := h1
      obtain ⟨nm, bs, mro, ns, qn, hd, sn, sub, ab, col, del⟩ := cd
      dsimp only at hm hdel hdi
      subst hm hdel hdi
      have hsl : sl = #[k0, k1, k2, k3, some (.builtin "ValueError.__new__"), k5] := by
        obtain ⟨l⟩ := sl
        simp only at hs
        rw [hs]
      subst hsl
      exact ⟨nm, qn, ns, bs, bm, sn, sub, ab, col, dd, k0, k1, k2, k3, k5, ho, ht⟩
    · cases h1
  · cases h1
/-- what isinstance asks of such a class -/
structure IsC (K : PySem.W.Frag) (C : Addr) : Prop where
  cl : (PySem.W.clsIn K C).isSome = true
  ga : PySem.W.findIn K (.ref C) "__getattribute__" = some (some (.builtin "BaseException.__getattribute__"))
  gg : PySem.W.findIn K (.ref C) "__getattr__" = some none
  sub : PySem.W.subIn K (.ref C) (.type "BaseException") = some true
  ha : PySem.W.findIn K (.ref C) "__class__" = some (some (.builtin "object.__class__"))
  hn : PySem.W.specialIn K (.builtin "object.__class__") "__get__" = some (some (.builtin "getset_descriptor.__get__"))
  tk : PySem.W.takesIn K (.builtin "object.__class__") = some true
  mr : PySem.W.mroIn K C (.type "object") = some true
def isB (K : PySem.W.Frag) (C : Addr) : Bool := (PySem.W.clsIn K C).isSome && (decide (PySem.W.findIn K (.ref C) "__getattribute__" = some (some (.builtin "BaseException.__getattribute__"))) && (decide (PySem.W.findIn K (.ref C) "__getattr__" = some none) && (decide (PySem.W.subIn K (.ref C) (.type "BaseException") = some true) &&
  (decide (PySem.W.findIn K (.ref C) "__class__" = some (some (.builtin "object.__class__"))) && (decide (PySem.W.specialIn K (.builtin "object.__class__") "__get__" = some (some (.builtin "getset_descriptor.__get__"))) && (decide (PySem.W.takesIn K (.builtin "object.__class__") = some true) && decide (PySem.W.mroIn K C (.type "object") = some true)))))))
theorem isB_ok {K : PySem.W.Frag} {C : Addr} (h : isB K C = true) : IsC K C := by
  obtain ⟨h1, h⟩ := band h
  obtain ⟨h2, h⟩ := band h
  obtain ⟨h3, h⟩ := band h
  obtain ⟨h4, h⟩ := band h
  obtain ⟨h5, h⟩ := band h
  obtain ⟨h6, h⟩ := band h
  obtain ⟨h7, h8⟩ := band h
  exact ⟨h1, of_decide_eq_true h2, of_decide_eq_true h3, of_decide_eq_true h4, of_decide_eq_true h5, of_decide_eq_true h6, of_decide_eq_true h7, of_decide_eq_true h8⟩

/-! ### an error's __init__ that stores its parameters -/
def spXI (C : Addr) (ns : List Str) : Sp := fun vs H Q E => ∃ a ws, vs = .ref a :: ws ∧ ws.length = ns.length ∧ H a = some (exo a C none) ∧ ∀ dx H', H dx = none → dx ≠ a → H' a = some (exo a C (some dx)) → H' dx = some (exd dx (ns.zip ws).reverse) → (∀ b, b ≠ a → b ≠ dx → H' b = H b) → Q .non H'
section
variable {K : PySem.W.Frag} {C a dx : Addr} {σ : L2.St} {H : Hp} {D : Ends} {f : Str} {i : Nat} {y : V} {fs : List (Str × V)}
theorem rd_ost1 (h0 : σ[0]? = some (some (.ref a))) (hi : σ[i]? = some (some y)) (T : OexC K C) (no : PySem.W.findIn K (.ref C) f = some none) (ha : H a = some (exo a C none))
    (k : ∀ dx, H dx = none → dx ≠ a → D.nx σ (upd (upd H dx (exd dx [(f, y)])) a (exo a C (some dx)))) : tOst K f (tVar 0) (tVar i) D σ H := ⟨y, hi, _, h0, a, C, rfl, T, no, .inl ⟨ha, k⟩⟩
theorem rd_ost2 (h0 : σ[0]? = some (some (.ref a))) (hi : σ[i]? = some (some y)) (T : OexC K C) (no : PySem.W.findIn K (.ref C) f = some none) (ha : H a = some (exo a C (some dx))) (hd : H dx = some (exd dx fs)) (hl : fs.length ≤ 900)
    (k : D.nx σ (upd H dx (exd dx ((f, y) :: fs)))) : tOst K f (tVar 0) (tVar i) D σ H := ⟨y, hi, _, h0, a, C, rfl, T, no, .inr ⟨dx, fs, ha, hd, hl, k⟩⟩
end
/-- a class of errors with its __init__, as its raisers use it -/
structure Xok (cl : Cl) (P : Program) (w : World) (K : PySem.W.Frag) (mg : Str → Option Value) (base : Heap) (x : Str) (c : Nat) (ns : List Str) : Prop where
  ex : ∃ fI fd ps k, OexC K (cl.f c) ∧ PySem.W.findIn K (.ref (cl.f c)) "__init__" = some (some (.ref fI)) ∧ PySem.W.typeIn K (.ref fI) = some (.type "function") ∧ FnOk P w K mg base (L2.CX P w) 1 fI fd ps (spXI (cl.f c) ns) ∧ Binds K fd ps [] ∧ mg x = some (.ref (cl.f c)) ∧ k = 1
namespace S
def raise_ (c : Nat) (ns : List Str) (a : P.Ax) : Sx := fun env => (a (hide env)).then_ env fun ts => if ts.length = ns.length ∧ ts.length ≤ 1000 then .er ⟨c, ns, ts.reverse⟩ env else .stuck
def raise0 (c : Nat) : Sx := fun env => .er ⟨c, [], []⟩ env
end S
section
variable {cl : Cl} {X : Cx} {G : Ge} {d : Nat} {W : WX} {e : Expr} {es : List Expr} {a : P.Ax} {ta : TA} {x : Str} {p1 pos : Pos} {ns : List Str} {c : Nat}
theorem zip_rev {α β : Type} : ∀ {xs : List α} {ys : List β}, xs.length = ys.length → (xs.zip ys).reverse = xs.reverse.zip ys.reverse
  | [], [], _ => rfl
  | x :: xs, y :: ys, h => by
    have h' : xs.length = ys.length := by simpa using h
    rw [List.zip_cons_cons, List.reverse_cons, List.reverse_cons, List.reverse_cons, zip_rev h', List.zip_append (by rw [List.length_reverse, List.length_reverse]; exact h')]
    rfl
theorem ss_raise (ha : SA G d W ta a) : SS G d W (fun _ σ H => tMkO (G.cl c) (spXI (G.cl c) ns) [] ta σ H fun cls d H' => W cls d σ H') (S.raise_ c ns.reverse a) := fun A0 F0 H0 A env σ F H D R o =>
  R.runA ha o fun ts vs F1 H1 R1 rs o1 => by
    obtain ⟨⟨hl, hz⟩, o2⟩ := OutS.of_if o1
    rw [List.length_reverse] at hl
    refine ⟨by rw [rs.length]; exact hz, fun b hb => ⟨b, vs, by rw [List.append_nil], by rw [rs.length]; exact hl, upd_same, fun dx H' hd hne hHa hHd hr => ⟨rfl, dx, _, hHa, hHd, ?_, ?_⟩⟩⟩
    · rw [upd_ne hne] at hd
      exact hd
    · have hd1 : H1 dx = none := by
        rw [upd_ne hne] at hd
        exact hd
      have eH : upd (del H' b) dx (.xd (ns.zip vs).reverse) = upd H1 dx (.xd (ns.zip vs).reverse) := by
        funext q
        by_cases c1 : q = dx
        · rw [c1, upd_same, upd_same]
        · rw [upd_ne c1, upd_ne c1]
          by_cases c2 : q = b
          · rw [c2, del_same, hb]
          · rw [del_ne c2, hr q c2 c1, upd_ne c2]
      rw [eH]
      have g := Grow.new (o := .xd (ns.zip vs).reverse) R1.sub hd1
      refine o2 A σ _ _ (some dx) (R1.grow g) (.inr ⟨dx, vs.reverse, rfl, ?_, ?_, ?_⟩)
      · rw [upd_same, zip_rev (by rw [rs.length, hl])]
      · show vs.reverse.length = ns.reverse.length
        rw [List.length_reverse, List.length_reverse, rs.length, hl]
      · exact (rs.mono g.ex).reverse
theorem passL0 : Passes (L2.CX X.prog X.w) X (fun _ _ _ => False) := passL
theorem ds_raise {ns' : List Str} (Q : Xok cl X.prog X.w X.K X.mg X.base x c ns) (hr : Room 2 X.A) (ha : DA cl X d W (e :: es) a) (tk : Takes X W := by exact tk_of) (hns : ns' = ns.reverse := by rfl) (hc : X.calm = true := by rfl) (hg : Gl X x := by rfl) (hdb : (x == ("__debug__" : Str)) = false := by decide)
    (he : starEach (e :: es) X.env = (false, eval e X.env) :: starEach es X.env := by rfl) (hpl : (backTo p1 (starEach es X.env)).any (·.1) = false := by rfl) {p : Pos} : DS cl X d W (.Raise (some (.Call (.Name x p) (e :: es) [] p1)) none pos) (S.raise_ c ns' a) := by
  subst hns
  obtain ⟨t, c1, c2⟩ := ha
  obtain ⟨fI, fd, ps, k, T, iC, tI, F1, hb, hm, _⟩ := Q
  exact ⟨_, ps_raise hc tk (pmk_oex (dvs := []) (ds := []) T iC tI F1 hr hb .nil passL0 hg hm c1 hdb he hpl), ss_raise c2⟩
end

/-! ### try .. except C as e: .. over one call -/
mutual
def noX : T → Bool
  | .lst _ ts => noXs ts
  | .tup ts => noXs ts
  | .ro ts => noXs ts
  | .ins _ _ _ ts => noXs ts
  | .dct _ _ ts => noXs ts
  | .exn _ _ _ => false
  | _ => true
def noXs : List T → Bool
  | [] => true
  | t :: ts => noX t && noXs ts
end
def noXS : Option Sl → Bool
  | some (.fz t) => noX t
  | some (.ol ts) => noXs ts
  | some (.oi _ _ ts) => noXs ts
  | some (.od _ ts) => noXs ts
  | none => true
def Cl.hold (cl : Cl) (x : Addr × Value × Option Addr) : Cl := { cl with xh := some x }
section
variable {K : PySem.W.Frag} {cl : Cl} {x : Addr × Value × Option Addr} {A : Al} {F : Hp}
mutual
theorem rep.hold (h0 : cl.xh = none) : ∀ {t : T} {v : V}, rep ⟨K, cl⟩ A F t v → rep ⟨K, cl.hold x⟩ A F t v
  | .non, _, h => h
  | .bl _, _, h => h
  | .int _, _, h => h
  | .str _, _, h => h
  | .lst _ _, _, ⟨a, vs, e1, e2, e3, e4⟩ => ⟨a, vs, e1, e2, e3, reps.hold h0 e4⟩
  | .tup _, _, ⟨a, vs, e1, e2, e4⟩ => ⟨a, vs, e1, e2, reps.hold h0 e4⟩
  | .ro _, _, ⟨a, vs, e1, e2, e4⟩ => ⟨a, vs, e1, e2, reps.hold h0 e4⟩
  | .ins _ _ _ _, _, ⟨a, dx, vs, e1, e2, e3, e5, e4⟩ => ⟨a, dx, vs, e1, e2, e3, e5, reps.hold h0 e4⟩
  | .dct _ _ _, _, ⟨a, vs, e1, e2, e3, e5, e4⟩ => ⟨a, vs, e1, e2, e3, e5, reps.hold h0 e4⟩
  | .exn _ _ _, _, ⟨a, cls, dx, e1, _⟩ => by
    rw [show (⟨K, cl⟩ : Ge).c.xh = none from h0] at e1
    cases e1
theorem reps.hold (h0 : cl.xh = none) : ∀ {ts : List T} {vs : List V}, reps ⟨K, cl⟩ A F ts vs → reps ⟨K, cl.hold x⟩ A F ts vs
  | [], _, h => h
  | _ :: _, _, ⟨v, ws, e1, e2, e3⟩ => ⟨v, ws, e1, rep.hold h0 e2, reps.hold h0 e3⟩
end
mutual
theorem rep.drop : ∀ {t : T} {v : V}, noX t = true → rep ⟨K, cl.hold x⟩ A F t v → rep ⟨K, cl⟩ A F t v
  | .non, _, _, h => h
  | .bl _, _, _, h => h
  | .int _, _, _, h => h
  | .str _, _, _, h => h
  | .lst _ _, _, n, ⟨a, vs, e1, e2, e3, e4⟩ => ⟨a, vs, e1, e2, e3, reps.dropX n e4⟩
  | .tup _, _, n, ⟨a, vs, e1, e2, e4⟩ => ⟨a, vs, e1, e2, reps.dropX n e4⟩
  | .ro _, _, n, ⟨a, vs, e1, e2, e4⟩ => ⟨a, vs, e1, e2, reps.dropX n e4⟩
  | .ins _ _ _ _, _, n, ⟨a, dx, vs, e1, e2, e3, e5, e4⟩ => ⟨a, dx, vs, e1, e2, e3, e5, reps.dropX n e4⟩
  | .dct _ _ _, _, n, ⟨a, vs, e1, e2, e3, e5, e4⟩ => ⟨a, vs, e1, e2, e3, e5, reps.dropX n e4⟩
  | .exn _ _ _, _, n, _ => by cases n
theorem reps.dropX : ∀ {ts : List T} {vs : List V}, noXs ts = true → reps ⟨K, cl.hold x⟩ A F ts vs → reps ⟨K, cl⟩ A F ts vs
  | [], _, _, h => h
  | _ :: _, _, n, ⟨v, ws, e1, e2, e3⟩ => by
    obtain ⟨n1, n2⟩ := band n
    exact ⟨v, ws, e1, rep.drop n1 e2, reps.dropX n2 e3⟩
end
theorem Rel.hold {d : Nat} {A0 : Al} {F0 H0 H : Hp} {env : Fv} {σ : L2.St} (h0 : cl.xh = none) (R : Rel ⟨K, cl⟩ d A0 F0 H0 A env σ F H) : Rel ⟨K, cl.hold x⟩ d A0 F0 H0 A env σ F H :=
  ⟨R.ok0, R.dep0, R.len, R.agree, R.dep, R.inj, R.own, R.exF, R.sub, R.keep, R.sep, fun i t e => let ⟨v, h1, h2⟩ := R.fz i t e; ⟨v, h1, h2.hold h0⟩,
    fun i ts e => let ⟨p, vs, h1, h2, h3, h4⟩ := R.ol i ts e; ⟨p, vs, h1, h2, h3, h4.hold h0⟩, fun i c ns ts e => let ⟨p, dx, vs, h1, h2, h3, h5, h4⟩ := R.oi i c ns ts e; ⟨p, dx, vs, h1, h2, h3, h5, h4.hold h0⟩,
    fun i ks ts e => let ⟨p, vs, h1, h2, h3, h5, h4⟩ := R.od i ks ts e; ⟨p, vs, h1, h2, h3, h5, h4.hold h0⟩, R.pin⟩
theorem Rel.dropX {d : Nat} {A0 : Al} {F0 H0 H : Hp} {env : Fv} {σ : L2.St} (n : env.all noXS = true) (R : Rel ⟨K, cl.hold x⟩ d A0 F0 H0 A env σ F H) : Rel ⟨K, cl⟩ d A0 F0 H0 A env σ F H :=
  ⟨R.ok0, R.dep0, R.len, R.agree, R.dep, R.inj, R.own, R.exF, R.sub, R.keep, R.sep,
    fun i t e => let ⟨v, h1, h2⟩ := R.fz i t e; ⟨v, h1, h2.drop (List.all_eq_true.mp n _ (List.mem_of_getElem? e))⟩,
    fun i ts e => let ⟨p, vs, h1, h2, h3, h4⟩ := R.ol i ts e; ⟨p, vs, h1, h2, h3, h4.dropX (List.all_eq_true.mp n _ (List.mem_of_getElem? e))⟩,
    fun i c ns ts e => let ⟨p, dx, vs, h1, h2, h3, h5, h4⟩ := R.oi i c ns ts e; ⟨p, dx, vs, h1, h2, h3, h5, h4.dropX (List.all_eq_true.mp n _ (List.mem_of_getElem? e))⟩,
    fun i ks ts e => let ⟨p, vs, h1, h2, h3, h5, h4⟩ := R.od i ks ts e; ⟨p, vs, h1, h2, h3, h5, h4.dropX (List.all_eq_true.mp n _ (List.mem_of_getElem? e))⟩, R.pin⟩
/-- a slot emptied -/
theorem Rel.gone {G : Ge} {d i : Nat} {A0 : Al} {F0 H0 H : Hp} {env : Fv} {σ : L2.St} (R : Rel G d A0 F0 H0 A env σ F H) (hp : i = 0 → G.c.pin = none) : ∃ A', Rel G d A0 F0 H0 A' (env.set i none) (σ.set i none) F H := by
  refine ⟨fun g => if g = (d, i) then none else A g, R.ok0, R.dep0, by rw [List.length_set, List.length_set]; exact R.len, fun g z => ?_, fun g a z => ?_, fun g g' a z y => ?_, fun j a z => ?_, R.exF, R.sub, R.keep, R.sep, fun j u e => ?_, fun j u e => ?_, fun j cc ns u e => ?_, fun j kk u e => ?_, fun b z => ?_⟩
  · show (if g = (d, i) then none else A g) = _
    rw [if_neg (fun y => by rw [y] at z; exact absurd z (Nat.lt_irrefl _))]
    exact R.agree g z
  · have z' : (if g = (d, i) then none else A g) = some a := z
    by_cases c : g = (d, i)
    · rw [if_pos c] at z'; cases z'
    · rw [if_neg c] at z'; exact R.dep g a z'
  · have z' : (if g = (d, i) then none else A g) = some a := z
    have y' : (if g' = (d, i) then none else A g') = some a := y
    by_cases c : g = (d, i)
    · rw [if_pos c] at z'; cases z'
    · by_cases c' : g' = (d, i)
      · rw [if_pos c'] at y'; cases y'
      · rw [if_neg c] at z'; rw [if_neg c'] at y'; exact R.inj g g' a z' y'
  · have z' : (if (d, j) = (d, i) then none else A (d, j)) = some a := z
    by_cases c : (d, j) = (d, i)
    · rw [if_pos c] at z'; cases z'
    · rw [if_neg c] at z'; exact R.own j a z'
  · have ne : i ≠ j := fun c => by
      subst c
      rw [List.getElem?_set, if_pos rfl] at e
      split at e <;> cases e
    rw [List.getElem?_set_ne ne] at e ⊢
    exact R.fz j u e
  · have ne : i ≠ j := fun c => by
      subst c
      rw [List.getElem?_set, if_pos rfl] at e
      split at e <;> cases e
    rw [List.getElem?_set_ne ne] at e ⊢
    obtain ⟨p, vs, h1, h2, h3⟩ := R.ol j u e
    refine ⟨p, vs, h1, ?_, h3⟩
    show (if (d, j) = (d, i) then none else A (d, j)) = some p
    rw [if_neg (fun y => ne (Prod.mk.inj y).2.symm)]
    exact h2
  · have ne : i ≠ j := fun c => by
      subst c
      rw [List.getElem?_set, if_pos rfl] at e
      split at e <;> cases e
    rw [List.getElem?_set_ne ne] at e ⊢
    obtain ⟨p, dx, vs, h1, h2, h3⟩ := R.oi j cc ns u e
    refine ⟨p, dx, vs, h1, ?_, h3⟩
    show (if (d, j) = (d, i) then none else A (d, j)) = some p
    rw [if_neg (fun y => ne (Prod.mk.inj y).2.symm)]
    exact h2
  · have ne : i ≠ j := fun c => by
      subst c
      rw [List.getElem?_set, if_pos rfl] at e
      split at e <;> cases e
    rw [List.getElem?_set_ne ne] at e ⊢
    obtain ⟨p, vs, h1, h2, h3⟩ := R.od j kk u e
    refine ⟨p, vs, h1, ?_, h3⟩
    show (if (d, j) = (d, i) then none else A (d, j)) = some p
    rw [if_neg (fun y => ne (Prod.mk.inj y).2.symm)]
    exact h2
  · rw [if_neg (fun y => by rw [hp (Prod.mk.inj y).2.symm] at z; cases z)]
    exact R.pin b z
end
namespace S
/-- what a suite leaves -/
def done (i : Nat) : RS → RS
  | .nx env => if (env.set i none).all noXS = true then .nx (env.set i none) else .stuck
  | .rt t => if noX t = true then .rt t else .stuck
  | .br env => if (env.set i none).all noXS = true then .br (env.set i none) else .stuck
  | .ct env => if (env.set i none).all noXS = true then .ct (env.set i none) else .stuck
  | _ => .stuck
/-- try: s, except one of the classes whose answer ok c tells, as slot i: u; what is not taken goes on -/
def try_ (tk : Nat → Option Bool) (i : Nat) (s u : Sx) : Sx := fun env => match s env with
  | .er e env1 => (match tk e.c with
    | some true => if i < env1.length then done i (u (env1.set i (some (.fz (.exn e.c e.ns e.ts))))) else .stuck
    | some false => .er e env1
    | none => .stuck)
  | r => r
end S
section
variable {K : PySem.W.Frag} {cl : Cl} {d i : Nat} {W : WX} {s u : Sx} {tb : WX → TS} {ts : Addr → Value → Option Addr → TS} {c : Value} {tk : Nat → Option Bool}
/-- W: what is wished outside -/
theorem ss_try (hp : i = 0 → cl.pin = none) (h0 : cl.xh = none) (htk : ∀ n b, tk n = some b → PySem.W.exmOne K (.ref (cl.f n)) c = some b) (hb : ∀ W', SS ⟨K, cl⟩ d W' (tb W') s) (hu : ∀ a cls dx, SS ⟨K, cl.hold (a, cls, dx)⟩ d W0 (ts a cls dx) u) :
    SS ⟨K, cl⟩ d W (fun D σ H => tb (wAs K c i ts W D) D σ H) (S.try_ tk i s u) := fun A0 F0 H0 A env σ F H D R o => by
  refine hb _ A0 F0 H0 A env σ F H D R ?_
  have o' : OutS ⟨K, cl⟩ d A0 F0 H0 W D (match s env with
    | .er e env1 => (match tk e.c with
      | some true => if i < env1.length then S.done i (u (env1.set i (some (.fz (.exn e.c e.ns e.ts))))) else .stuck
      | some false => .er e env1
      | none => .stuck)
    | r => r) := o
  cases z : s env with
  | nx env => rw [z] at o'; exact o'
  | rt t => rw [z] at o'; exact o'
  | br env => rw [z] at o'; exact o'
  | ct env => rw [z] at o'; exact o'
  | stuck => rw [z] at o'; exact o'
  | er e env1 =>
    rw [z] at o'
    intro A1 σ1 F1 H1 dx R1 x1
    cases q : tk e.c with
    | none => simp only [q] at o'; exact o'.elim
    | some b =>
      refine ⟨b, htk _ _ q, fun hbt a ha => ?_, fun hbf => ?_⟩
      · subst hbt
        simp only [q] at o'
        obtain ⟨hi, o2⟩ := OutS.of_if o'
        have R2 : Rel ⟨K, cl.hold (a, .ref (cl.f e.c), dx)⟩ d A0 F0 H0 A1 env1 σ1 F1 H1 := R1.hold h0
        have rx : rep ⟨K, cl.hold (a, .ref (cl.f e.c), dx)⟩ A0 F1 (.exn e.c e.ns e.ts) (.ref a) := ⟨a, _, dx, rfl, rfl, rfl, match x1 with
          | .inl z => .inl z
          | .inr ⟨dd, vs, k1, k2, k3, k4⟩ => .inr ⟨dd, vs, k1, k2, k3, k4.hold h0⟩⟩
        obtain ⟨A2, R3⟩ := R2.set rx hi hp
        refine hu a _ dx A0 F0 H0 A2 _ _ F1 H1 _ R3 ?_
        cases z2 : u (env1.set i (some (.fz (.exn e.c e.ns e.ts)))) with
        | nx env2 =>
          rw [z2] at o2
          obtain ⟨n, o3⟩ := OutS.of_if o2
          intro A4 σ4 F4 H4 R4
          obtain ⟨A5, R5⟩ := R4.gone (i := i) hp
          exact o3 A5 _ F4 H4 (R5.dropX n)
        | br env2 =>
          rw [z2] at o2
          obtain ⟨n, o3⟩ := OutS.of_if o2
          intro A4 σ4 F4 H4 R4
          obtain ⟨A5, R5⟩ := R4.gone (i := i) hp
          exact o3 A5 _ F4 H4 (R5.dropX n)
        | ct env2 =>
          rw [z2] at o2
          obtain ⟨n, o3⟩ := OutS.of_if o2
          intro A4 σ4 F4 H4 R4
          obtain ⟨A5, R5⟩ := R4.gone (i := i) hp
          exact o3 A5 _ F4 H4 (R5.dropX n)
        | rt t =>
          rw [z2] at o2
          obtain ⟨n, o3⟩ := OutS.of_if o2
          intro v F4 H4 g r
          exact o3 v F4 H4 g (r.drop n)
        | er e2 env2 => rw [z2] at o2; exact o2.elim
        | stuck => rw [z2] at o2; exact o2.elim
      · subst hbf
        simp only [q] at o'
        exact o' A1 σ1 F1 H1 dx R1 x1
end
end Py

set_option Elab.async false
set_option linter.all false
set_option maxRecDepth 100000
set_option maxHeartbeats 4000000
namespace Py
open PySem L2 PySem.Spec PyProof.Rows Evl

/-! ### blocks: the reading that says just what is asked -/
def cB (G : Ge) (d : Nat) (W : WX) (s : Sx) : TS := fun D σ H => ∃ A0 F0 H0 A env F, Rel G d A0 F0 H0 A env σ F H ∧ OutS G d A0 F0 H0 W D (s env)
section
variable {G : Ge} {cl : Cl} {X : Cx} {d i : Nat} {W : WX} {s u : Sx} {b body suite : List Stmt} {b₀ : Stmt}
theorem ss_cB : SS G d W (cB G d W s) s := fun A0 F0 H0 A env σ F H D R o => ⟨A0, F0, H0, A, env, F, R, o⟩
theorem DB.pss (h : DB cl X d W b s) : PSs X b (cB ⟨X.K, cl⟩ d W s) := by
  obtain ⟨t, a1, a2⟩ := h
  exact ⟨fun pins s σ H D I ⟨A0, F0, H0, A, env, F, R, o⟩ => a1.run pins s σ H D I (a2 A0 F0 H0 A env σ F H D R o)⟩
theorem ds_try {x n : Str} {c : Value} {np pos pos' : Pos} {tk : Nat → Option Bool} (hN : X.N.Nodup) (hc : Names X x c) (htk : ∀ n b, tk n = some b → PySem.W.exmOne X.K (.ref (cl.f n)) c = some b)
    (hb : ∀ (W' : WX) (pn : List (Addr × Obj)) (xe : Value → Shared → Prop), Takes (X.tr pn xe) W' → PassesOwn (model X.prog X.w) X.A X.env xe → DB cl (X.tr pn xe) d W' body s)
    (hu : ∀ (a : Addr) (oe : Obj) (cls : Value) (dx : Option Addr) (pn : List (Addr × Obj)), Zc cls dx oe → (∃ vs, oe.data = .fields vs) → DB (cl.hold (a, cls, dx)) (X.suite a ((a, oe) :: pn)) d W0 (b₀ :: suite) u)
    (tkk : Takes X W) (h0 : cl.xh = none) (hi : X.N[i]? = some n := by rfl) (hln : X.env.kindOf n = some .local := by rfl) (hs : X.stack = X.env :: X.outer := by rfl) (hf : X.env.frame = some X.env.locals := by rfl) (hp : i = 0 → cl.pin = none := by first | (intro _; assumption) | (intro h; cases h)) :
    DS cl X d W (.Try body [.ExceptHandler (some (.Name x np)) (some n) (b₀ :: suite) pos'] [] [] pos) (S.try_ tk i s u) :=
  ⟨_, ps_try_as hs hf hN hi hln hc tkk (tb := fun W' => cB ⟨X.K, cl⟩ d W' s) (ts := fun a cls dx => cB ⟨X.K, cl.hold (a, cls, dx)⟩ d W0 u) (fun W' pn xe t p => (hb W' pn xe t p).pss) (fun a oe cls dx pn z f => (hu a oe cls dx pn z f).pss), ss_try hp h0 htk (fun W' => ss_cB) (fun a cls dx => ss_cB)⟩
end
namespace S
def noEr : RS → RS
  | .er _ _ => .stuck
  | r => r
/-- without a name -/
def tryN (tk : Nat → Option Bool) (s u : Sx) : Sx := fun env => match s env with
  | .er e env1 => (match tk e.c with
    | some true => noEr (u env1)
    | some false => .er e env1
    | none => .stuck)
  | r => r
end S
section
variable {K : PySem.W.Frag} {cl : Cl} {X : Cx} {d i : Nat} {W : WX} {s u : Sx} {tb : WX → TS} {ts : Addr → Value → Option Addr → TS} {c : Value} {tk : Nat → Option Bool} {b body suite : List Stmt} {b₀ : Stmt}
theorem ss_tryN (htk : ∀ n b, tk n = some b → PySem.W.exmOne K (.ref (cl.f n)) c = some b) (hb : ∀ W', SS ⟨K, cl⟩ d W' (tb W') s) (hu : ∀ a cls dx, SS ⟨K, cl⟩ d W0 (ts a cls dx) u) :
    SS ⟨K, cl⟩ d W (fun D σ H => tb (wOnly K c ts W D) D σ H) (S.tryN tk s u) := fun A0 F0 H0 A env σ F H D R o => by
  refine hb _ A0 F0 H0 A env σ F H D R ?_
  have o' : OutS ⟨K, cl⟩ d A0 F0 H0 W D (match s env with
    | .er e env1 => (match tk e.c with
      | some true => S.noEr (u env1)
      | some false => .er e env1
      | none => .stuck)
    | r => r) := o
  cases z : s env with
  | nx env => rw [z] at o'; exact o'
  | rt t => rw [z] at o'; exact o'
  | br env => rw [z] at o'; exact o'
  | ct env => rw [z] at o'; exact o'
  | stuck => rw [z] at o'; exact o'
  | er e env1 =>
    rw [z] at o'
    intro A1 σ1 F1 H1 dx R1 x1
    cases q : tk e.c with
    | none => simp only [q] at o'; exact o'.elim
    | some b =>
      refine ⟨b, htk _ _ q, fun hbt a ha => ?_, fun hbf => ?_⟩
      · subst hbt
        simp only [q] at o'
        refine hu a _ dx A0 F0 H0 A1 _ _ F1 H1 _ R1 ?_
        cases z2 : u env1 with
        | nx env2 => rw [z2] at o'; exact o'
        | br env2 => rw [z2] at o'; exact o'
        | ct env2 => rw [z2] at o'; exact o'
        | rt t => rw [z2] at o'; exact o'
        | er e2 env2 => rw [z2] at o'; exact o'.elim
        | stuck => rw [z2] at o'; exact o'.elim
      · subst hbf
        simp only [q] at o'
        exact o' A1 σ1 F1 H1 dx R1 x1
theorem ds_tryN {x : Str} {np pos pos' : Pos} (hc : Names X x c) (htk : ∀ n b, tk n = some b → PySem.W.exmOne X.K (.ref (cl.f n)) c = some b)
    (hb : ∀ (W' : WX) (pn : List (Addr × Obj)) (xe : Value → Shared → Prop), Takes (X.tr pn xe) W' → PassesOwn (model X.prog X.w) X.A X.env xe → DB cl (X.tr pn xe) d W' body s)
    (hu : ∀ (a : Addr) (oe : Obj) (pn : List (Addr × Obj)), DB cl (X.suite a ((a, oe) :: pn)) d W0 (b₀ :: suite) u)
    (tkk : Takes X W) (hs : X.stack = X.env :: X.outer := by rfl) (hf : X.env.frame = some X.env.locals := by rfl) :
    DS cl X d W (.Try body [.ExceptHandler (some (.Name x np)) none (b₀ :: suite) pos'] [] [] pos) (S.tryN tk s u) :=
  ⟨_, ps_try_only hs hf hc tkk (tb := fun W' => cB ⟨X.K, cl⟩ d W' s) (ts := fun a cls dx => cB ⟨X.K, cl⟩ d W0 u) (fun W' pn xe t p => (hb W' pn xe t p).pss) (fun a oe cls dx pn z f => (hu a oe pn).pss), ss_tryN htk (fun W' => ss_cB) (fun a cls dx => ss_cB)⟩
end

/-! ### what a suite asks of the error that it holds -/
def T.isx (tk : Nat → Option Bool) : T → Option T
  | .exn c _ _ => (tk c).map .bl
  | _ => none
def DxOk (dx : Option Addr) (H : Hp) : Prop := dx = none ∨ ∃ dd fs, dx = some dd ∧ H dd = some (.xd fs)
def rIsX (K : PySem.W.Frag) (a : Addr) (cls : Value) (dx : Option Addr) : List V → Hp → VK → Prop := fun xs H Q => ∃ (D : Addr) (c : V) (u : Value) (b : Bool), cls = .ref D ∧ IsC K D ∧ DxOk dx H ∧ xs = [.ref a, c] ∧ ClsV c u ∧ PySem.W.kitOne K (.ref D) u = some b ∧ Q (.bl b) H
/-- or of the classes of a tuple -/
def rIsXT (K : PySem.W.Frag) (a : Addr) (cls : Value) (dx : Option Addr) : List V → Hp → VK → Prop := fun xs H Q => ∃ (D : Addr) (tp : Addr) (cs : List V) (us : List Value) (b : Bool), cls = .ref D ∧ IsC K D ∧ DxOk dx H ∧ xs = [.ref a, .ref tp] ∧ H tp = some (.tup cs) ∧ Paired ClsV cs us ∧ PySem.W.kitAny K (.ref D) us = some b ∧ Q (.bl b) H
section
variable {X : Cx} {a : Addr} {oe : Obj} {cls : Value} {dx : Option Addr} {pn : List (Addr × Obj)}
theorem inst_of {D : Addr} {pins : List (Addr × Obj)} {σ : L2.St} {H : Hp} {s : Shared} (I : Inv (X.suite a ((a, oe) :: pn)) pins σ H s) (hz : Zc (.ref D) dx oe) (hf : ∃ vs, oe.data = .fields vs) (hx : DxOk dx H) : ∃ od, PySem.W.InstAt s.heap a oe D od := by
  obtain ⟨hget, _⟩ := I.pin (a, oe) (List.mem_append.mpr (.inl List.mem_cons_self))
  obtain ⟨vs, hv⟩ := hf
  rcases hx with rfl | ⟨dd, fs, rfl, ea⟩
  · exact ⟨none, hget, hz.1, by unfold PySem.W.notCls; rw [hv] <;> rfl, by rw [hz.2]; trivial⟩
  · have hx : ObjOk X.prog X.w H s.heap dd (.xd fs) := I.hok dd _ ea
    obtain ⟨mA, hns, hr⟩ := hx
    obtain ⟨od, ho, hl⟩ := lookIn_ns hns
    exact ⟨some od, hget, hz.1, by unfold PySem.W.notCls; rw [hv] <;> rfl, by rw [hz.2]; exact ho⟩
theorem call_isX (hz : Zc cls dx oe) (hf : ∃ vs, oe.data = .fields vs) : CallR (X.suite a ((a, oe) :: pn)) (.builtin "isinstance") (rIsX X.K a cls dx) := by
  intro pins s σ H xs us Q I r h
  obtain ⟨D, c, u, b, rfl, C, hx, rfl, k, e, q⟩ := h
  obtain ⟨u1, u2, rfl, r1, r2⟩ := vals2 r
  have e2 := k.eq r2
  subst e2
  cases (show u1 = Value.ref a from r1)
  obtain ⟨od, J⟩ := inst_of I hz hf hx
  exact PySem.W.kia_one (PySem.W.kitx_exc C.cl C.ga C.gg C.sub C.ha C.hn C.tk C.mr) I.kIn J e (fun z => nomatch z) fun tk => ⟨.bl b, H, I.kept (t' := tk) fun _ _ z => z, rfl, q⟩
theorem call_isXT (hz : Zc cls dx oe) (hf : ∃ vs, oe.data = .fields vs) : CallR (X.suite a ((a, oe) :: pn)) (.builtin "isinstance") (rIsXT X.K a cls dx) := by
  intro pins s σ H xs us Q I r h
  obtain ⟨D, tp, cs, ws, b, rfl, C, hx, rfl, hT, k, e, q⟩ := h
  obtain ⟨u1, u2, rfl, r1, r2⟩ := vals2 r
  cases (show u2 = Value.ref tp from r2)
  cases (show u1 = Value.ref a from r1)
  obtain ⟨od, J⟩ := inst_of I hz hf hx
  obtain ⟨_, its, rv, o, h1, h2, n, h3⟩ := (show ObjOk X.prog X.w H s.heap tp (.tup cs) from I.hok tp _ hT)
  have e3 := ClsV.all k rv
  subst e3
  obtain ⟨oc, od', dt, sl⟩ := o
  simp only at h2 h3
  subst h2 h3
  exact PySem.W.kia_tup (PySem.W.kitx_exc C.cl C.ga C.gg C.sub C.ha C.hn C.tk C.mr) I.kIn J h1 e (fun z => nomatch z) fun tk => ⟨.bl b, H, I.tok tk, rfl, q⟩
/-- a class by its name: of the module, or a built-in type -/
structure NC (X : Cx) (x : Str) (u : Value) : Prop where
  ex : (∃ C, X.mg x = some (.ref C) ∧ u = .ref C) ∨ (∃ n, X.mg x = none ∧ bootBuiltins x = some (.type n) ∧ x ≠ "__name__" ∧ u = .type n)
theorem NC.pe {x : Str} {u : Value} {pos : Pos} (h : NC X x u) (hg : Gl X x) (hd : (x == ("__debug__" : Str)) = false) : ∃ v, ClsV v u ∧ PE X (.Name x pos) (tC v) := by
  rcases h.ex with ⟨C, h1, rfl⟩ | ⟨n, h1, h2, h3, rfl⟩
  · exact ⟨.ref C, .own C, pe_glob hg h1 rfl hd⟩
  · exact ⟨.ty n, .ty n, pe_bltn (v := .ty n) hg h1 h2 rfl h3 hd⟩
theorem NC.own {x : Str} {C : Addr} (h : X.mg x = some (.ref C)) : NC X x (.ref C) := ⟨.inl ⟨C, h, rfl⟩⟩
theorem NC.ty {x : Str} {n : String} (h : X.mg x = none) (hv : bootBuiltins x = some (.type n)) (hn : x ≠ "__name__" := by decide) : NC X x (.type n) := ⟨.inr ⟨n, h, hv, hn, rfl⟩⟩
/-- several -/
structure NCs (X : Cx) (es : List Expr) (us : List Value) : Prop where
  ex : ∃ vs, Paired ClsV vs us ∧ us.length = es.length ∧ PA X es (fun _ H Q => Q vs H)
theorem NCs.nil : NCs X [] [] := ⟨[], .nil, rfl, pa_nil⟩
theorem NCs.cons {x : Str} {u : Value} {pos : Pos} {es : List Expr} {us : List Value} (h : NC X x u) (k : NCs X es us) (hg : Gl X x := by rfl) (hd : (x == ("__debug__" : Str)) = false := by decide)
    (he : starEach (.Name x pos :: es) X.env = (false, eval (.Name x pos) X.env) :: starEach es X.env := by rfl) : NCs X (.Name x pos :: es) (u :: us) := by
  obtain ⟨v, h1, h2⟩ := h.pe (pos := pos) hg hd
  obtain ⟨vs, k1, k2, k3⟩ := k
  exact ⟨v :: vs, .cons h1 k1, by rw [List.length_cons, List.length_cons, k2], pa_cons h2 k3 he⟩
end
section
variable {cl : Cl} {X : Cx} {a : Addr} {oe : Obj} {cls : Value} {dx : Option Addr} {pn : List (Addr × Obj)} {e : Expr} {p : P.Ex1} {d : Nat} {W : WX} {tk : Nat → Option Bool} {pos p1 p2 : Pos} {x : Str}
theorem de_isX {u : Value} (hm : X.mg "isinstance" = none) (hc : NC X x u) (htk : ∀ n b, tk n = some b → IsC X.K (cl.f n) ∧ PySem.W.kitOne X.K (.ref (cl.f n)) u = some b) (hz : Zc cls dx oe) (hf : ∃ vs, oe.data = .fields vs)
    (h : DE (cl.hold (a, cls, dx)) (X.suite a ((a, oe) :: pn)) d W e p) (hd : (x == ("__debug__" : Str)) = false := by decide) (hg : Gl X "isinstance" := by rfl) (hg2 : Gl X x := by rfl)
    (he : starEach [e, .Name x p2] X.env = (false, eval e X.env) :: starEach [.Name x p2] X.env := by rfl) (he2 : starEach [.Name x p2] X.env = (false, eval (.Name x p2) X.env) :: starEach [] X.env := by rfl) (hpl : (backTo pos (starEach [.Name x p2] X.env)).any (·.1) = false := by rfl) :
    DE (cl.hold (a, cls, dx)) (X.suite a ((a, oe) :: pn)) d W (.Call (.Name "isinstance" p1) [e, .Name x p2] [] pos) (P.un (T.isx tk) p) := by
  obtain ⟨te, a1, a2⟩ := h
  obtain ⟨v, hv, hp⟩ := (show NC (X.suite a ((a, oe) :: pn)) x u from ⟨hc.ex⟩).pe (pos := p2) hg2 hd
  refine ⟨_, pe_callB (call_isX (X := X) hz hf) hg hm (by decide +kernel) (pa_cons a1 (pa_cons hp pa_nil he2) he) (by decide) (by decide) he hpl, fun A env σ F H Q R e o => a2 A env σ F H _ R e (Outg.bind o fun y w F1 H1 g1 rx o1 => ?_)⟩
  unfold T.isx at o1
  cases y with
  | exn c ns ts =>
    simp only at o1
    cases q : tk c with
    | none => rw [q] at o1; exact o1.elim
    | some b =>
      rw [q] at o1
      obtain ⟨a', cls', dx', e1, e2, e3, e4⟩ := rx
      have e1' : some (a, cls, dx) = some (a', cls', dx') := e1
      simp only [Option.some.injEq, Prod.mk.injEq] at e1'
      obtain ⟨ea, ec, ed⟩ := e1'
      subst ea ed e2
      obtain ⟨k1, k2⟩ := htk c b q
      refine ⟨_, v, u, b, ec.trans e3, k1, ?_, rfl, hv, k2, Out.here o1 g1.sub rfl⟩
      rcases e4 with ⟨_, _, e5⟩ | ⟨dd, vs, e5, e6, _⟩
      · exact .inl e5
      · exact .inr ⟨dd, _, e5, g1.sub _ _ e6⟩
  | _ => exact o1.elim
end
section
variable {cl : Cl} {X : Cx} {a : Addr} {oe : Obj} {cls : Value} {dx : Option Addr} {pn : List (Addr × Obj)} {e : Expr} {cs : List Expr} {p : P.Ex1} {d : Nat} {W : WX} {tk : Nat → Option Bool} {pos p1 p2 : Pos} {x : Str}
theorem paired_length {α β : Type} {F : α → β → Prop} : ∀ {xs : List α} {ys : List β}, Paired F xs ys → xs.length = ys.length
  | _, _, .nil => rfl
  | _, _, .cons _ k => by rw [List.length_cons, List.length_cons, paired_length k]
theorem de_isXT {us : List Value} {x1 : Nat} (hm : X.mg "isinstance" = none) (hc : NCs (X.suite a ((a, oe) :: pn)) cs us) (htk : ∀ n b, tk n = some b → IsC X.K (cl.f n) ∧ PySem.W.kitAny X.K (.ref (cl.f n)) us = some b) (hz : Zc cls dx oe) (hf : ∃ vs, oe.data = .fields vs)
    (h : DE (cl.hold (a, cls, dx)) (X.suite a ((a, oe) :: pn)) d W e p) (hlen : cs.length ≤ 1000 := by decide) (hg : Gl X "isinstance" := by rfl)
    (he : starEach [e, .Tuple cs x1 p2] X.env = (false, eval e X.env) :: starEach [.Tuple cs x1 p2] X.env := by rfl) (he2 : starEach [.Tuple cs x1 p2] X.env = (false, eval (.Tuple cs x1 p2) X.env) :: starEach [] X.env := by rfl) (hpl : (backTo pos (starEach [.Tuple cs x1 p2] X.env)).any (·.1) = false := by rfl) :
    DE (cl.hold (a, cls, dx)) (X.suite a ((a, oe) :: pn)) d W (.Call (.Name "isinstance" p1) [e, .Tuple cs x1 p2] [] pos) (P.un (T.isx tk) p) := by
  obtain ⟨te, a1, a2⟩ := h
  obtain ⟨vs, hv, hl, hp⟩ := hc
  refine ⟨_, pe_callB (call_isXT (X := X) hz hf) hg hm (by decide +kernel) (pa_cons a1 (pa_cons (pe_tup hp) pa_nil he2) he) (by decide) (by decide) he hpl, fun A env σ F H Q R e o => a2 A env σ F H _ R e (Outg.bind o fun y w F1 H1 g1 rx o1 => ?_)⟩
  unfold T.isx at o1
  cases y with
  | exn c ns ts =>
    simp only at o1
    cases q : tk c with
    | none => rw [q] at o1; exact o1.elim
    | some b =>
      rw [q] at o1
      obtain ⟨a', cls', dx', e1, e2, e3, e4⟩ := rx
      have e1' : some (a, cls, dx) = some (a', cls', dx') := e1
      simp only [Option.some.injEq, Prod.mk.injEq] at e1'
      obtain ⟨ea, ec, ed⟩ := e1'
      subst ea ed e2
      obtain ⟨k1, k2⟩ := htk c b q
      refine ⟨?_, fun q' hq => ?_⟩
      · rw [paired_length hv, hl]; exact Nat.le_trans hlen (by decide)
      · have gj : Grow F1 H1 F1 (upd H1 q' (.tup vs)) := Grow.junk g1.sub hq
        refine ⟨_, q', vs, us, b, ec.trans e3, k1, ?_, rfl, upd_same, hv, k2, Out.here (Outg.step gj o1) gj.sub rfl⟩
        rcases e4 with ⟨_, _, e5⟩ | ⟨dd, ws, e5, e6, _⟩
        · exact .inl e5
        · exact .inr ⟨dd, _, e5, gj.sub _ _ e6⟩
  | _ => exact o1.elim
end

/-! ### e.f -/
def T.xf (c : Nat) (f : Str) : T → Option T
  | .exn c' ns ts => if c' = c then (ns.zip ts).lookup f else none
  | _ => none
theorem zip_lookup {G : Ge} {A : Al} {F : Hp} {f : Str} : ∀ {ns : List Str} {ts : List T} {vs : List V} {t : T}, reps G A F ts vs → (ns.zip ts).lookup f = some t → ∃ v, (ns.zip vs).lookup f = some v ∧ rep G A F t v
  | [], _, _, _, _, h => by cases h
  | _ :: _, [], _, _, _, h => by cases h
  | n :: ns, t :: ts, vs, u, ⟨v, ws, e1, e2, e3⟩, h => by
    subst e1
    rw [List.zip_cons_cons, List.lookup_cons] at h ⊢
    cases q : (f == n) with
    | true => rw [q] at h; cases h; exact ⟨v, rfl, e2⟩
    | false => rw [q] at h; exact zip_lookup e3 h
section
variable {cl : Cl} {X : Cx} {a : Addr} {oe : Obj} {cls : Value} {dx : Option Addr} {pn : List (Addr × Obj)} {e : Expr} {p : P.Ex1} {d : Nat} {W : WX} {pos : Pos} {n : Str} {c : Nat}
theorem de_xf (C : XfC X.K (cl.f c)) (hno : PySem.W.findIn X.K (.ref (cl.f c)) n = some none) (hz : Zc cls dx oe) (hf : ∃ vs, oe.data = .fields vs) (h : DE (cl.hold (a, cls, dx)) (X.suite a ((a, oe) :: pn)) d W e p) (hb : attributeBase e n X.env (eval e X.env) = eval e X.env := by rfl) :
    DE (cl.hold (a, cls, dx)) (X.suite a ((a, oe) :: pn)) d W (.Attribute e n pos) (P.un (T.xf c n) p) := by
  obtain ⟨te, a1, a2⟩ := h
  refine ⟨_, pe_xf (X := X) C hno hz hf a1 hb, fun A env σ F H Q R e o => a2 A env σ F H _ R e (Outg.bind o fun y w F1 H1 g1 rx o1 => ?_)⟩
  unfold T.xf at o1
  cases y with
  | exn c' ns ts =>
    simp only at o1
    split at o1
    · rename_i hcc
      subst hcc
      cases q : (ns.zip ts).lookup n with
      | none => rw [q] at o1; exact o1.elim
      | some t =>
        rw [q] at o1
        obtain ⟨a', cls', dx', e1, e2, e3, e4⟩ := rx
        have e1' : some (a, cls, dx) = some (a', cls', dx') := e1
        simp only [Option.some.injEq, Prod.mk.injEq] at e1'
        obtain ⟨ea, ec, ed⟩ := e1'
        subst ea ed e2
        rcases e4 with ⟨e5, _, _⟩ | ⟨dd, vs, e5, e6, e7, e8⟩
        · subst e5; cases q
        · obtain ⟨v, hv, rv⟩ := zip_lookup e8 q
          exact ⟨rfl, ec.trans e3, dd, _, v, e5, g1.sub _ _ e6, hv, Out.here o1 g1.sub rv⟩
    · exact o1.elim
  | _ => exact o1.elim
end
end Py

set_option Elab.async false
set_option linter.all false
set_option maxRecDepth 100000
set_option maxHeartbeats 4000000
namespace Py
open PySem L2 PySem.Spec PyProof.Rows Evl

/-! ### min of four whole numbers -/
theorem args_four (a b c d : Value) : PySem.argsOk "min" ⟨[a, b, c, d], []⟩ := by unfold PySem.argsOk; kernel_rfl
section
variable {prog : Program} {w : World} {A : Around} {E : Value → Shared → Prop} {s : Shared}
theorem call_four {a b c d : Value} {Q : Value → Shared → Prop}
    (h : wpAny (model prog w) A.in1 (pyIter (.ref s.heap.objs.size)) (fun it s₂ => ∃ I fp wr n P St bt, it = .ref I ∧ Walks prog w A.in1 I fp wr n P St ∧ St 0 s₂.heap ∧ (∀ b ∈ fp, b < s₂.heap.objs.size) ∧ 0 < n ∧ CmpOf prog w A.in1 .Lt P bt ∧
      ∀ v h' tk, P (argBest bt (n - 1)) v → (∀ b o, b ∉ wr → s₂.heap.get? b = some o → h'.get? b = some o) → Q v { s₂ with heap := h', toks := tk }) E
      { s with heap := s.heap.push { cls := .type "tuple", data := .seq #[a, b, c, d] } }) :
    wpAny (model prog w) A (call (.builtin "min") [a, b, c, d]) Q E s := by
  have hname : (toString "min" ++ toString ".loop" : String) = "min.loop" := by decide
  refine call_function_tree F.kind_min F.plain_min F.entry_min (args_four _ _ _ _) ?_
  show wpAny _ A.in1 (Builtin.Builtins.bindParams "min" ["key", "default"] 0 ⟨[], []⟩ >>= _) _ _ s
  refine wpAny_bind (wpAny_of_eq (show Builtin.Builtins.bindParams "min" ["key", "default"] 0 ⟨[], []⟩ = pure [none, none] from rfl) ?_)
  show wpAny _ A.in1 (newTuple [a, b, c, d] >>= _) _ _ s
  refine wpAny_bind (wpAny_newObj_type (wpAny_bind (wpAny_mono h (fun it s₂ h₂ => ?_) fun _ _ e => e)))
  obtain ⟨I, fp, wr, n, P, St, bt, rfl, W, hst, hfp, hn, hcmp, hQ⟩ := h₂
  have hSf : s₂.heap.objs.size ∉ fp := fun hm => Nat.lt_irrefl _ (hfp _ hm)
  refine wpAny_bind (wpAny_newObj_type ?_)
  rw [hname]
  refine wpAny_pure ⟨plainId_quiet F.plain_min_loop _, codeAny_min_loop_first W bt hcmp s₂.heap.objs.size hSf hn (W.frame _ _ _ hst fun b _ o e => Heap.get?_push_of_some _ e) (Heap.get?_push_size _ rfl) fun v h' tk hP hk => ?_⟩
  exact hQ v h' tk hP fun b o hbw e => hk b o hbw (Nat.ne_of_lt (Heap.lt_size e)) (Heap.get?_push_of_some _ e)
def mn4 (a b c d : Int) : Int := min (min (min a b) c) d
theorem min_four {a b c d : Int} {t u x y : Tok} {Q : Value → Shared → Prop} (hh : A.handled = none)
    (h : ∀ h' tk tt, (∀ d o, s.heap.get? d = some o → h'.get? d = some o) → Q (.int (mn4 a b c d) tt) { s with heap := h', toks := tk }) :
    wpAny (model prog w) A (call (.builtin "min") [.int a t, .int b u, .int c x, .int d y]) Q E s := by
  have hT : (s.heap.push { cls := .type "tuple", data := .seq #[.int a t, .int b u, .int c x, .int d y] }).IsTuple s.heap.objs.size (intItems #[(a, t), (b, u), (c, x), (d, y)]) := ⟨_, Heap.get?_push_size _ rfl, rfl, 0, by simp [intItems]⟩
  refine call_four (wpAny_pyIter_tuple hT ?_)
  have hsz : (s.heap.push { cls := .type "tuple", data := .seq #[.int a t, .int b u, .int c x, .int d y] }).objs.size = s.heap.objs.size + 1 := Heap.size_push ..
  refine ⟨_, [_, s.heap.objs.size], [_], _, _, _, _, rfl, Walks.tuple (A := A.in1) hh _ s.heap.objs.size (by rw [hsz]; exact Nat.ne_of_lt (Nat.lt_succ_self _)) (intItems #[(a, t), (b, u), (c, x), (d, y)]),
    ⟨⟨_, Heap.get?_push_size _ rfl, rfl, rfl⟩, hT.push _⟩, fun q hq => ?_, by simp [intItems], CmpOf.ints_lt (numAt #[(a, t), (b, u), (c, x), (d, y)]) (fun _ _ => intItems_at), fun v h' tk hP hk => ?_⟩
  · show q < ((s.heap.push _).push _).objs.size
    rw [Heap.size_push, hsz]
    rcases List.mem_cons.mp hq with rfl | hq
    · rw [hsz]; exact Nat.lt_succ_self _
    · rcases List.mem_cons.mp hq with rfl | hq
      · exact Nat.lt_succ_of_lt (Nat.lt_succ_self _)
      · cases hq
  · have hold : ∀ q o, s.heap.get? q = some o → h'.get? q = some o := fun q o e => by
      refine hk q o (fun hm => ?_) (Heap.get?_push_of_some _ (Heap.get?_push_of_some _ e))
      rcases List.mem_cons.mp hm with e1 | hm
      · have := Heap.lt_size e; rw [e1, hsz] at this; exact Nat.lt_irrefl _ (Nat.lt_of_succ_lt this)
      · cases hm
    have hP' : (intItems #[(a, t), (b, u), (c, x), (d, y)])[argBest (fun i j => decide (numAt #[(a, t), (b, u), (c, x), (d, y)] i < numAt #[(a, t), (b, u), (c, x), (d, y)] j)) 3]? = some v := by
      have hsz2 : (intItems #[(a, t), (b, u), (c, x), (d, y)]).size - 1 = 3 := by simp [intItems]
      rw [← hsz2]; exact hP
    have hv : ∃ tt, v = .int (mn4 a b c d) tt := by
      have g : ∀ (i : Nat) (z : Int) (tz : Tok), argBest (fun i j => decide (numAt #[(a, t), (b, u), (c, x), (d, y)] i < numAt #[(a, t), (b, u), (c, x), (d, y)] j)) 3 = i → (intItems #[(a, t), (b, u), (c, x), (d, y)])[i]? = some (.int z tz) → mn4 a b c d = z → ∃ tt, v = .int (mn4 a b c d) tt := fun i z tz e1 e2 e3 => by
        rw [e1, e2] at hP'
        exact ⟨tz, by rw [e3]; exact (Option.some.inj hP').symm⟩
      by_cases h1 : b < a
      · by_cases h2 : c < b
        · by_cases h3 : d < c
          · exact g 3 d y (by simp [argBest, numAt, h1, h2, h3]) (by simp [intItems]) (by unfold mn4; omega)
          · exact g 2 c x (by simp [argBest, numAt, h1, h2, h3]) (by simp [intItems]) (by unfold mn4; omega)
        · by_cases h3 : d < b
          · exact g 3 d y (by simp [argBest, numAt, h1, h2, h3]) (by simp [intItems]) (by unfold mn4; omega)
          · exact g 1 b u (by simp [argBest, numAt, h1, h2, h3]) (by simp [intItems]) (by unfold mn4; omega)
      · by_cases h2 : c < a
        · by_cases h3 : d < c
          · exact g 3 d y (by simp [argBest, numAt, h1, h2, h3]) (by simp [intItems]) (by unfold mn4; omega)
          · exact g 2 c x (by simp [argBest, numAt, h1, h2, h3]) (by simp [intItems]) (by unfold mn4; omega)
        · by_cases h3 : d < a
          · exact g 3 d y (by simp [argBest, numAt, h1, h2, h3]) (by simp [intItems]) (by unfold mn4; omega)
          · exact g 0 a t (by simp [argBest, numAt, h1, h2, h3]) (by simp [intItems]) (by unfold mn4; omega)
    obtain ⟨tt, rfl⟩ := hv
    exact h h' tk tt hold
end
def B.min4 : List T → Option T
  | [.int a, .int b, .int c, .int d] => some (.int (mn4 a b c d))
  | _ => none
section
variable {cl : Cl} {X : Cx}
theorem call_min4 (hc : X.calm = true) : CallR X (.builtin "min") (fun xs H Q => ∃ i j k l, xs = [.int i, .int j, .int k, .int l] ∧ Q (.int (mn4 i j k l)) H) := by
  intro pins s σ H xs us Q I r h
  obtain ⟨i, j, k, l, rfl, q⟩ := h
  cases r with
  | cons r1 r => cases r with
    | cons r2 r => cases r with
      | cons r3 r => cases r with
        | cons r4 r =>
          cases r
          obtain ⟨t1, rfl⟩ := r1
          obtain ⟨t2, rfl⟩ := r2
          obtain ⟨t3, rfl⟩ := r3
          obtain ⟨t4, rfl⟩ := r4
          exact min_four (I.ok.hd hc) fun h' tk tt kk => ⟨.int (mn4 i j k l), H, I.kept kk, ⟨_, rfl⟩, q⟩
theorem crd_min4 (hc : X.calm = true) : CRd cl X (.builtin "min") B.min4 := ⟨_, call_min4 hc, fun A F H Q E ts vs ok e r o => by
  unfold B.min4 at o
  split at o
  · obtain ⟨v1, ws, rfl, r1, r⟩ := r
    obtain ⟨v2, ws, rfl, r2, r⟩ := r
    obtain ⟨v3, ws, rfl, r3, r⟩ := r
    obtain ⟨v4, ws, rfl, r4, r⟩ := r
    cases (show ws = [] from r)
    cases r1; cases r2; cases r3; cases r4
    exact ⟨_, _, _, _, rfl, Out.here o e rfl⟩
  · exact o.elim⟩
end

/-! ### errors' __init__ -/
section
variable {cl : Cl} {P : Program} {w : World} {K : PySem.W.Frag} {mg : Str → Option Value} {base : Heap} {x qual f1 f2 p1 p2 : Str} {params : Arguments} {body : List Stmt} {scope : Scope} {fI : Addr} {fd : FuncData} {c : Nat}
theorem xok1 {N : List Str} (F : FunD K "__init__" qual params body scope [] [] fI fd) (S : FnScope N ["self", p1] scope) (T : OexC K (cl.f c)) (iC : PySem.W.findIn K (.ref (cl.f c)) "__init__" = some (some (.ref fI))) (tI : PySem.W.typeIn K (.ref fI) = some (.type "function"))
    (n1 : PySem.W.findIn K (.ref (cl.f c)) f1 = some none) (hm : mg x = some (.ref (cl.f c))) (hN : N.length = 2)
    (hb : ∀ (kV doc pm : Value) (an : Option Addr) (cdv ct : Value) (us : List Value), us.length = 2 → bindArgs (PySem.W.fnOf "__init__" qual params body scope .none kV doc pm an cdv ct) ⟨us, []⟩ = pure ((["self", p1] : List Str).zip us))
    (h : ∀ (cdv : Value) (A : Around) (outer : List Env) (s : Shared) (H : Hp) (E : XK), PSs (XOf P w K mg base N qual scope fI cdv A outer s H E) body (tOst K f1 (tVar 0) (tVar 1))) : Xok cl P w K mg base x c [f1] := by
  refine ⟨⟨fI, fd, ["self", p1], 1, T, iC, tI, ?_, F.bindsN hb, hm, rfl⟩⟩
  refine F.ok S (fun vs H Q E h => ?_) (fun cdv A outer s H vs Q E hr hsp => ⟨_, h cdv A outer s H E, ?_⟩)
  · obtain ⟨a, ws, rfl, hl, _⟩ := h
    rw [List.length_cons, hl] <;> rfl
  · obtain ⟨a, ws, rfl, hl, ha, hQ⟩ := hsp
    match ws, hl with
    | [y], _ =>
      match N, hN with
      | [_, _], _ =>
        refine rd_ost1 rfl rfl T n1 ha fun dx hd hne => ?_
        refine hQ dx _ hd hne upd_same ?_ (fun b h1 h2 => by rw [upd_ne h1, upd_ne h2])
        rw [upd_ne hne, upd_same]
        rfl
theorem xok2 {N : List Str} (F : FunD K "__init__" qual params body scope [] [] fI fd) (S : FnScope N ["self", p1, p2] scope) (T : OexC K (cl.f c)) (iC : PySem.W.findIn K (.ref (cl.f c)) "__init__" = some (some (.ref fI))) (tI : PySem.W.typeIn K (.ref fI) = some (.type "function"))
    (n1 : PySem.W.findIn K (.ref (cl.f c)) f1 = some none) (n2 : PySem.W.findIn K (.ref (cl.f c)) f2 = some none) (hm : mg x = some (.ref (cl.f c))) (hN : N.length = 3)
    (hb : ∀ (kV doc pm : Value) (an : Option Addr) (cdv ct : Value) (us : List Value), us.length = 3 → bindArgs (PySem.W.fnOf "__init__" qual params body scope .none kV doc pm an cdv ct) ⟨us, []⟩ = pure ((["self", p1, p2] : List Str).zip us))
    (h : ∀ (cdv : Value) (A : Around) (outer : List Env) (s : Shared) (H : Hp) (E : XK), PSs (XOf P w K mg base N qual scope fI cdv A outer s H E) body (tSeq (tOst K f1 (tVar 0) (tVar 1)) (tOst K f2 (tVar 0) (tVar 2)))) : Xok cl P w K mg base x c [f1, f2] := by
  refine ⟨⟨fI, fd, ["self", p1, p2], 1, T, iC, tI, ?_, F.bindsN hb, hm, rfl⟩⟩
  refine F.ok S (fun vs H Q E h => ?_) (fun cdv A outer s H vs Q E hr hsp => ⟨_, h cdv A outer s H E, ?_⟩)
  · obtain ⟨a, ws, rfl, hl, _⟩ := h
    rw [List.length_cons, hl] <;> rfl
  · obtain ⟨a, ws, rfl, hl, ha, hQ⟩ := hsp
    match ws, hl with
    | [y, z], _ =>
      match N, hN with
      | [_, _, _], _ =>
        refine rd_ost1 rfl rfl T n1 ha fun dx hd hne => ?_
        refine rd_ost2 rfl rfl T n2 upd_same (by rw [upd_ne hne, upd_same]) (Nat.le_of_ble_eq_true rfl) ?_
        refine hQ dx _ hd hne ?_ ?_ (fun b h1 h2 => by rw [upd_ne h2, upd_ne h1, upd_ne h2])
        · rw [upd_ne (Ne.symm hne), upd_same]
        · rw [upd_same]
          rfl
end
end Py

set_option Elab.async false
set_option linter.all false
set_option maxRecDepth 100000
set_option maxHeartbeats 4000000
namespace Py
open PySem L2 PySem.Spec PyProof.Rows Evl He

/-! ### a hook with facts of one's own -/
abbrev XF := PySem.W.Frag → Bool
def obsX (fa : List Fa) (fn : List DefD) (xs : List XF) (K : PySem.W.Frag) : AlD := (((fa.all fun f => f.ok K) && fn.all fun d => d.ok K) && xs.all fun x => x K, fn.map fun d => fnW K d.at_)
def SaysX (fa : List Fa) (fn : List DefD) (xs : List XF) (K : PySem.W.Frag) : Prop := obsX fa fn xs K = valD fn
def obsXG (n : Nat) (fa : List Fa) (fn : List DefD) (xs : List XF) (g : Addr → Option Obj) : AlD := obsX fa fn xs (frG g (asD g n))
def hookX (n : Nat) (fa : List Fa) (fn : List DefD) (xs : List XF) : PySem.W.Hook where
  α := AlD
  obs := fun s => obsXG n fa fn xs s.heap.get?
  val := fun _ => valD fn
  says := fun _ h => ∃ K : PySem.W.Frag, K.In h ∧ SaysX fa fn xs K
  of := fun _ _ e => ⟨_, frG_in, e⟩
  keeps := fun _ _ _ ⟨K, hK, c⟩ k => ⟨K, PySem.W.Frag.In.keeps hK k, c⟩
theorem obsXG_eq {n : Nat} {fa : List Fa} {fn : List DefD} {xs : List XF} {g : Addr → Option Obj} {s : Shared} (h : ∀ a, g a = s.heap.get? a) : obsXG n fa fn xs g = (hookX n fa fn xs).obs s := by
  have e : g = s.heap.get? := funext h
  rw [e] <;> rfl
section
variable {fa : List Fa} {fn : List DefD} {xs : List XF} {K : PySem.W.Frag}
theorem SaysX.d (c : SaysX fa fn xs K) : SaysD fa fn K := by
  have e1 : (((fa.all fun f => f.ok K) && fn.all fun d => d.ok K) && xs.all fun x => x K) = true := congrArg (fun z : AlD => z.1) c
  have e2 : fn.map (fun d => fnW K d.at_) = fn.map DefD.val := congrArg (fun z : AlD => z.2) c
  exact Prod.ext (ba e1).1 e2
theorem SaysX.fact (c : SaysX fa fn xs K) (i : Nat) {f : Fa} (h : fa[i]? = some f := by rfl) : f.ok K = true := c.d.fact i h
theorem SaysX.def_ (c : SaysX fa fn xs K) (i : Nat) {d : DefD} (h : fn[i]? = some d := by rfl) : ∃ fd, FunD K d.name d.qual d.params d.body d.scope (d.dvs K) (d.kws K) (fAd K d.at_) fd := c.d.def_ i h
theorem SaysX.x (c : SaysX fa fn xs K) (i : Nat) {f : XF} (h : xs[i]? = some f := by rfl) : f K = true := by
  have e1 : (((fa.all fun f => f.ok K) && fn.all fun d => d.ok K) && xs.all fun x => x K) = true := congrArg (fun z : AlD => z.1) c
  exact List.all_eq_true.mp (ba e1).2 f (List.mem_of_getElem? h)
end
/-! ### the classes by numbers -/
def clOf (ns : List Str) (K : PySem.W.Frag) : Cl := ⟨fun n => ga K (ns.getD n ""), none, none⟩
/-- what the names of a module's error classes say -/
def excB (x : Str) (K : PySem.W.Frag) : Bool := oexB K (ga K x) && (isB K (ga K x) && xfB K (ga K x))
def iniB (x : Str) (K : PySem.W.Frag) : Bool := eqO (PySem.W.findIn K (.ref (ga K x)) "__init__") (some (some (.ref (ma K (ga K x) "__init__")))) && decide (PySem.W.typeIn K (.ref (ma K (ga K x) "__init__")) = some (.type "function"))
theorem excB_ok {x : Str} {K : PySem.W.Frag} (h : excB x K = true) : OexC K (ga K x) ∧ IsC K (ga K x) ∧ XfC K (ga K x) := by
  obtain ⟨h1, h⟩ := ba h
  obtain ⟨h2, h3⟩ := ba h
  exact ⟨oexB_ok h1, isB_ok h2, xfB_ok h3⟩
theorem iniB_ok {x : Str} {K : PySem.W.Frag} (h : iniB x K = true) : PySem.W.findIn K (.ref (ga K x)) "__init__" = some (some (.ref (fAd K (x, some "__init__")))) ∧ PySem.W.typeIn K (.ref (fAd K (x, some "__init__"))) = some (.type "function") := by
  obtain ⟨h1, h2⟩ := ba h
  exact ⟨eqO_ok h1, of_decide_eq_true h2⟩
/-- the class y (or the built-in type y) in an except clause, asked of each class of the list: tab tells the answers -/
def clsV (own : Bool) (y : Str) (K : PySem.W.Frag) : Value := if own then .ref (ga K y) else .type y.toString
def exmB (ns : List Str) (tab : List (Nat × Bool)) (v : PySem.W.Frag → Value) (K : PySem.W.Frag) : Bool := tab.all fun p => decide (PySem.W.exmOne K (.ref (ga K (ns.getD p.1 ""))) (v K) = some p.2)
def kitsB (ns : List Str) (tab : List (Nat × Bool)) (v : PySem.W.Frag → Value) (K : PySem.W.Frag) : Bool := tab.all fun p => isB K (ga K (ns.getD p.1 "")) && decide (PySem.W.kitOne K (.ref (ga K (ns.getD p.1 ""))) (v K) = some p.2)
def kitaB (ns : List Str) (tab : List (Nat × Bool)) (v : PySem.W.Frag → List Value) (K : PySem.W.Frag) : Bool := tab.all fun p => isB K (ga K (ns.getD p.1 "")) && decide (PySem.W.kitAny K (.ref (ga K (ns.getD p.1 ""))) (v K) = some p.2)
theorem mem_lookup {tab : List (Nat × Bool)} {n : Nat} {b : Bool} (h : tab.lookup n = some b) : (n, b) ∈ tab := by
  induction tab with
  | nil => cases h
  | cons p t ih =>
    obtain ⟨m, c⟩ := p
    rw [List.lookup_cons] at h
    cases q : (n == m) with
    | true =>
      rw [q] at h
      cases h
      rw [eq_of_beq q]
      exact List.mem_cons_self
    | false =>
      rw [q] at h
      exact List.mem_cons_of_mem _ (ih h)
theorem exmB_ok {ns : List Str} {tab : List (Nat × Bool)} {v : PySem.W.Frag → Value} {K : PySem.W.Frag} (h : exmB ns tab v K = true) : ∀ n b, tab.lookup n = some b → PySem.W.exmOne K (.ref ((clOf ns K).f n)) (v K) = some b := fun n b e =>
  of_decide_eq_true (List.all_eq_true.mp h _ (mem_lookup e))
theorem kitsB_ok {ns : List Str} {tab : List (Nat × Bool)} {v : PySem.W.Frag → Value} {K : PySem.W.Frag} (h : kitsB ns tab v K = true) : ∀ n b, tab.lookup n = some b → IsC K ((clOf ns K).f n) ∧ PySem.W.kitOne K (.ref ((clOf ns K).f n)) (v K) = some b := fun n b e => by
  obtain ⟨h1, h2⟩ := ba (List.all_eq_true.mp h _ (mem_lookup e))
  exact ⟨isB_ok h1, of_decide_eq_true h2⟩
theorem kitaB_ok {ns : List Str} {tab : List (Nat × Bool)} {v : PySem.W.Frag → List Value} {K : PySem.W.Frag} (h : kitaB ns tab v K = true) : ∀ n b, tab.lookup n = some b → IsC K ((clOf ns K).f n) ∧ PySem.W.kitAny K (.ref ((clOf ns K).f n)) (v K) = some b := fun n b e => by
  obtain ⟨h1, h2⟩ := ba (List.all_eq_true.mp h _ (mem_lookup e))
  exact ⟨isB_ok h1, of_decide_eq_true h2⟩
/-- a method's text -/
def mth (st : Stmt) (j : Nat) : Stmt := match st with
  | .ClassDef _ _ _ b _ _ _ _ _ _ _ => b.getD j (.Pass ⟨0, 0, 0, 0⟩)
  | _ => .Pass ⟨0, 0, 0, 0⟩
/-! ### the end -/
theorem reps_ints {G : Ge} {A : Al} {F : Hp} : ∀ ns : List Int, reps G A F (ns.map T.int) (ns.map V.int)
  | [] => rfl
  | n :: ns => ⟨.int n, ns.map V.int, rfl, rfl, reps_ints ns⟩
/-- what the law's def says of a script -/
theorem law_end {G : Ge} {f : Nat → List T → Res T} {H : Hp} {a : Addr} {ns : List Int} (hf : f 1 [.ro (ns.map T.int)] = .ok (.bl true)) (hS : SqL G.K H a (ns.map V.int)) : spT G 1 f [.ref a] H (fun v _ => v = .bl true) (fun _ _ _ => False) := by
  refine ⟨rfl, 1, fun _ => none, H, [.ro (ns.map T.int)], ⟨fun _ _ _ z _ => (nomatch z), fun _ _ z => (nomatch z)⟩, fun _ _ z => (nomatch z), Ex.refl _, ⟨_, [], rfl, ⟨a, _, rfl, hS, reps_ints ns⟩, rfl⟩, ?_⟩
  rw [hf]
  exact fun b F1 H1 _ r => r
/-- a law's end; what it may let out hangs on the world -/
theorem walk_end {l : PySem.W.OpenLaw} {n k : Nat} {q : Program} {loose : List Str} {XP : (Str → Option Value) → Heap → Prop} {YP : World → Heap → Prop} {d : DefRec} {x : Str}
    (hn : l.most = some n) (hn2 : n ≤ sizeLine) (hdf : d.params.defaults = []) (hr : Room k callerA)
    (F : ∀ (w : World) (mg : Str → Option Value) (fa : Addr) (h : Heap), YP w h → h.Ns mainGlobals mg → mg d.name = some (.ref fa) →
      ∃ (K : PySem.W.Frag) (fd : FuncData) (sp : Sp), K.In h ∧ (∀ (s : Shared) (u : Value), BindsTo s fd ⟨[u], []⟩ [(x, u)]) ∧
        (∀ (H : Hp) (a : Addr) (ns : List Int), ns.length ≤ n → (∀ k ∈ ns, Builtin.Int.intBits k ≤ 1048576) → Only H → SqL K H a (ns.map V.int) → sp [.ref a] H (fun v _ => v = .bl true) fun _ _ _ => False) ∧
        ∀ base : Heap, K.In base → base.Ns mainGlobals mg → FnOk l.prog w K mg base (L2.CX l.prog w) k fa fd [x] sp) :
    PySem.W.WalkO q loose XP YP l.row.toRowW d [] (fun f vs => PySem.call f vs) := by
  refine Att.attach_callB hn hdf fun w s₀ s₁ mg mb fa o pm cd doc a vs ns G Y ho hd hcd hmg hobj hints hlen hbits hg => ?_
  obtain ⟨K, fd, sp, KX, hb, hsp, hF⟩ := F w mg fa _ Y G.T.g hmg
  exact law_call KX G.T.g G.T.b G.T.builtins G.T.nolimit hg hobj hints (Nat.le_trans hlen hn2) hr hF hb (fun H hO hS => hsp H a ns hlen hbits hO hS) fun H e s' z => by
    obtain ⟨_, _, _, _, _, _, _, _, _, _, _, _, z⟩ := z
    exact z
end Py

set_option Elab.async false
set_option linter.all false
set_option maxRecDepth 100000
set_option maxHeartbeats 4000000
namespace Py
open PySem L2 PySem.Spec PyProof.Rows Evl

/-! ### more rules of targets, chains, unpacking -/
section
variable {cl : Cl} {X : Cx} {d : Nat} {W : WX} {e e1 e2 e3 : Expr} {es : List Expr} {p q r : P.Ex1} {a : P.Ax} {pos p1 : Pos} {f g : T → T → Option T} {tg : T → Fv → Option Fv} {tgs : List (T → Fv → Option Fv)} {own : List Nat}
theorem dgs_cons (h1 : DG cl X d e tg) (h2 : DGs cl X d es tgs) (hs : (assignEach (e :: es) X.env).map (·.2) = assign e X.env :: (assignEach es X.env).map (·.2) := by rfl) : DGs cl X d (e :: es) (tg :: tgs) := by
  obtain ⟨t, a1, a2⟩ := h1
  obtain ⟨u, b1, b2⟩ := h2
  exact ⟨_, pgs_cons a1 b1 hs, sgs_cons a2 b2⟩
theorem dg_tup {k : Nat} (hc : X.calm = true) (h : DGs cl X d es tgs) (hn : (assignEach es X.env).length = tgs.length := by rfl) (hst : (assignEach es X.env).findIdx? (·.1) = none := by rfl) : DG cl X d (.Tuple es k pos) (S.tTup tgs) := by
  obtain ⟨t, a1, a2⟩ := h
  exact ⟨_, pg_tup hc a1 hn hst, sg_tup a2 rfl⟩
theorem dcs_cons (h1 : DC cl X d own e tg) (h2 : DCs cl X d own es tgs) (hs : (assignEach (e :: es) X.env).map (·.2) = assign e X.env :: (assignEach es X.env).map (·.2) := by rfl) : DCs cl X d own (e :: es) (tg :: tgs) := by
  obtain ⟨t, a1, a2⟩ := h1
  obtain ⟨u, b1, b2⟩ := h2
  exact ⟨_, pgs_cons a1 b1 hs, scs_cons a2 b2⟩
theorem dc_tup {k : Nat} (hc : X.calm = true) (h : DCs cl X d own es tgs) (hn : (assignEach es X.env).length = tgs.length := by rfl) (hst : (assignEach es X.env).findIdx? (·.1) = none := by rfl) : DC cl X d own (.Tuple es k pos) (S.tTup tgs) := by
  obtain ⟨t, a1, a2⟩ := h
  exact ⟨_, pg_tup hc a1 hn hst, sc_tup a2 rfl⟩
theorem ds_unp {tge : Expr} (h : DE cl X d W e p) (hg : DG cl X d tge tg) (hs : swapsWithSole [tge] e pos.line X.env = pure false := by rfl) (hw : swappedStores [tge] e X.env = pure none := by rfl)
    (h1 : (assignEach [tge] X.env).map (·.2) = [assign tge X.env] := by rfl) : DS cl X d W (.Assign [tge] e pos) (S.unp tg p) := by
  obtain ⟨t, a1, a2⟩ := h
  obtain ⟨u, b1, b2⟩ := hg
  exact ⟨_, ps_asg a1 b1 hs hw h1, ss_unp a2 b2⟩
theorem dt_chain {op op' : CmpOp} (ho : OpD X cl (compareOp op) f) (ho' : OpD X cl (compareOp op') g) (h1 : DE cl X d W e1 p) (h2 : DE cl X d W e2 q) (h3 : DE cl X d W e3 r) (hm : lastMarks [op, op'] [e2, e3] = false := by rfl) : DT cl X d W (.Compare e1 [op, op'] [e2, e3] pos) (P.tb (P.chain f g p q r)) := by
  obtain ⟨r1, x1, x2⟩ := ho
  obtain ⟨r2, y1, y2⟩ := ho'
  obtain ⟨t0, a1, a2⟩ := h1
  obtain ⟨t1, b1, b2⟩ := h2
  obtain ⟨t2, c1, c2⟩ := h3
  exact ⟨_, pt_chain x1 y1 a1 b1 c1 hm, st_test (se_chain x2 y2 a2 b2 c2)⟩
end

theorem if_someA {α : Type} {c : Prop} [Decidable c] {x y : α} (h : (if c then some x else none) = some y) : c ∧ x = y := by
  by_cases k : c
  · rw [if_pos k] at h; exact ⟨k, Option.some.inj h⟩
  · rw [if_neg k] at h; cases h
/-! ### new lists: a + b, a * n, list(x) -/
def OpN (G : Ge) (r : R2) (f : T → T → Option (List T)) : Prop := ∀ A F H (Q : VK) x y v w ts, AOk A F → Ex F H → rep G A F x v → rep G A F y w → f x y = some ts → (∀ p vs, reps G A F ts vs → H p = none → Q (.ref p) (upd H p (.lst vs))) → r v w H Q
abbrev SnR (G : Ge) (A : Al) : Hp → List T → Addr × List V → Prop := fun F1 ts b => reps G A F1 ts b.2 ∧ F1 b.1 = none
abbrev SnQ (H : Hp) (Q : VK) : Addr × List V → Hp → Prop := fun b H1 => H b.1 = none → H1 b.1 = some (.lst b.2) → Q (.ref b.1) H1
def P.binN (f : T → T → Option (List T)) (p q : P.Ex1) : Fv → Res (List T) := fun env => (p env).bind fun x => (q env).bind fun y => .of (f x y)
section
variable {G : Ge} {cl : Cl} {X : Cx} {d : Nat} {W : WX} {e e1 e2 : Expr} {p q : P.Ex1} {pos p1 : Pos} {f : T → T → Option (List T)} {ta tb : TE} {r1 : R2}
theorem sn_op (hr : OpN G r1 f) (ha : SE G d W ta p) (hb : SE G d W tb q) : SN G d W (tOp r1 ta tb) (P.binN f p q) := fun A env σ F H Q R e o => by
  have o0 : Outg G A F H (SnR G A) (SnQ H Q) (WE W σ) ((p env).bind fun x => (q env).bind fun y => .of (f x y)) := o
  refine ha A env σ F H _ R e (Outg.bind o0 fun x v F1 H1 g1 rx o1 => hb A env σ F1 H1 _ (R.mono g1.ex) g1.sub (Outg.bind o1 fun y w F2 H2 g2 ry o2 => ?_))
  cases z : f x y with
  | none => rw [z] at o2; exact o2.elim
  | some ts =>
    rw [z] at o2
    refine hr A F2 H2 Q x y v w ts ((R.ok.mono g1.ex).mono g2.ex) g2.sub (rx.mono g2.ex) ry z fun pa vs rs hp => ?_
    exact o2 (pa, vs) F2 (upd H2 pa (.lst vs)) (Grow.junk g2.sub hp) ⟨rs, none_of_ex g2.sub hp⟩ (none_of_ex (g1.keep.trans g2.keep) hp) upd_same
def T.catN : T → T → Option (List T)
  | .lst _ xs, .lst _ ys => if lfit (xs.length + ys.length) = true then some (xs ++ ys) else none
  | _, _ => none
def T.repN : T → T → Option (List T)
  | .lst _ xs, .int k => if decide (-(2 ^ 63) ≤ k) && decide (k < 2 ^ 63) && lfit (xs.length * k.toNat) then some (List.replicate k.toNat xs).flatten else none
  | _, _ => none
theorem opn_cat : OpN G rCat T.catN := fun A F H Q x y v w ts ok e rx ry z k => by
  cases x <;> cases y <;> (try cases z)
  rename_i g1 xs g2 ys
  obtain ⟨a, vs, rfl, h1, h2, h3⟩ := rx
  obtain ⟨b, ws, rfl, k1, k2, k3⟩ := ry
  have z' : (if lfit (xs.length + ys.length) = true then some (xs ++ ys) else none) = some ts := z
  obtain ⟨c, rfl⟩ := if_someA z'
  exact ⟨a, b, vs, ws, rfl, rfl, e _ _ h1, e _ _ k1, (by rw [h3.length, k3.length]; exact of_decide_eq_true c), fun p hp => k p _ (h3.append k3) hp⟩
theorem opn_rep : OpN G rRep T.repN := fun A F H Q x y v w ts ok e rx ry z k => by
  cases x <;> cases y <;> (try cases z)
  rename_i g1 xs n
  obtain ⟨a, vs, rfl, h1, h2, h3⟩ := rx
  cases ry
  have z' : (if decide (-(2 ^ 63) ≤ n) && decide (n < 2 ^ 63) && lfit (xs.length * n.toNat) then some (List.replicate n.toNat xs).flatten else none) = some ts := z
  obtain ⟨c, rfl⟩ := if_someA z'
  obtain ⟨c, c3⟩ := band c
  obtain ⟨c1, c2⟩ := band c
  exact ⟨a, n, vs, rfl, rfl, e _ _ h1, of_decide_eq_true c1, of_decide_eq_true c2, (by rw [h3.length]; exact of_decide_eq_true c3), fun p hp => k p _ (h3.flat _) hp⟩
theorem dn_cat (h1 : DE cl X d W e1 p) (h2 : DE cl X d W e2 q) : DN cl X d W (.BinOp e1 .Add e2 pos) (P.binN T.catN p q) := by
  obtain ⟨t1, b1, b2⟩ := h1
  obtain ⟨t2, c1, c2⟩ := h2
  exact ⟨_, pe_op op_cat b1 c1, sn_op opn_cat b2 c2⟩
theorem dn_rep (h1 : DE cl X d W e1 p) (h2 : DE cl X d W e2 q) : DN cl X d W (.BinOp e1 .Mult e2 pos) (P.binN T.repN p q) := by
  obtain ⟨t1, b1, b2⟩ := h1
  obtain ⟨t2, c1, c2⟩ := h2
  exact ⟨_, pe_op op_rep b1 c1, sn_op opn_rep b2 c2⟩
theorem dn_list (hm : X.mg "list" = none) (h : DE cl X d W e p) (hg : Gl X "list" := by rfl) (he : starEach [e] X.env = (false, eval e X.env) :: starEach [] X.env := by rfl) (hpl : (backTo pos (starEach [] X.env)).any (·.1) = false := by rfl) : DN cl X d W (.Call (.Name "list" p1) [e] [] pos) (P.items p) := by
  obtain ⟨t1, b1, b2⟩ := h
  refine ⟨_, pe_callTy call_list_of hg hm (by decide +kernel) (pa_cons b1 pa_nil he) (by decide) (by decide) he hpl, fun A env σ F H Q R e o => ?_⟩
  have o1 : Outg ⟨X.K, cl⟩ A F H (SnR ⟨X.K, cl⟩ A) (SnQ H Q) (WE W σ) ((p env).bind fun t => .of t.items) := o
  refine b2 A env σ F H _ R e (Outg.bind o1 fun x v F1 H1 g1 rx o2 => ?_)
  cases z : x.items with
  | none => rw [z] at o2; exact o2.elim
  | some us =>
    rw [z] at o2
    obtain ⟨a, ws, rfl, s, r2⟩ := items_of rx z
    exact ⟨a, ws, rfl, sq_mono g1.sub s, fun pa hp => o2 (pa, ws) F1 (upd H1 pa (.lst ws)) (Grow.junk g1.sub hp) ⟨r2, none_of_ex g1.sub hp⟩ (none_of_ex g1.keep hp) upd_same⟩
end
end Py

set_option Elab.async false
set_option linter.all false
set_option maxRecDepth 100000
set_option maxHeartbeats 4000000
namespace Py
open PySem L2 PySem.Spec PyProof.Rows Evl

/-! ### is True, is False -/
def T.isS (neg : Bool) (x y : T) : Option T := match y with
  | .bl b => (match x with
    | .bl a => some (.bl (decide (a = b) != neg))
    | .ins _ _ _ _ => none
    | .dct _ _ _ => none
    | .exn _ _ _ => none
    | _ => some (.bl neg))
  | _ => none
def T.isA (x y : T) : Option T := (T.isN x y).or (T.isS false x y)
def T.notA (x y : T) : Option T := (T.notN x y).or (T.isS true x y)
/-- a value that is not a bool, told by its V -/
def nbV : V → Prop
  | .bl _ => False
  | _ => True
def rIsS (neg : Bool) : R2 := fun x y H Q => ∃ b : Bool, y = .bl b ∧ ((∃ a : Bool, x = .bl a ∧ Q (.bl (decide (a = b) != neg)) H) ∨ (nbV x ∧ Q (.bl neg) H))
theorem plain_bool {x : V} {v : Value} (rx : RelV x v) (b : Bool) : plainIs v (.bool b) = true := by
  cases x <;> first
    | (cases rx; rfl)
    | (obtain ⟨t, rfl⟩ := rx; rfl)
section
variable {cl : Cl} {X : Cx}
theorem op_isS : OpR X (compareOp .Is) (rIsS false) := by
  intro pins s σ H x y v u Q I rx ry h
  obtain ⟨b, rfl, h⟩ := h
  cases (show u = Value.bool b from ry)
  rcases h with ⟨a, rfl, q⟩ | ⟨nb, q⟩
  · cases (show v = Value.bool a from rx)
    by_cases e : a = b
    · subst e
      exact wpAny_is_self rfl ⟨.bl true, H, I, rfl, by simpa using q⟩
    · exact wpAny_is_other rfl (fun z => e (Value.bool.inj z)) ⟨.bl false, H, I, rfl, by simpa [e] using q⟩
  · refine wpAny_is_other (plain_bool rx b) (fun z => ?_) ⟨.bl false, H, I, rfl, q⟩
    subst z
    cases x with
    | bl a => exact nb
    | non => cases rx
    | ref a => cases rx
    | ty a => cases rx
    | int a => obtain ⟨t, z⟩ := rx; cases z
    | str a => obtain ⟨t, z⟩ := rx; cases z
    | byt a => obtain ⟨t, z⟩ := rx; cases z
    | flt a => obtain ⟨t, z⟩ := rx; cases z
theorem op_notS : OpR X (compareOp .IsNot) (rIsS true) := by
  intro pins s σ H x y v u Q I rx ry h
  obtain ⟨b, rfl, h⟩ := h
  cases (show u = Value.bool b from ry)
  rcases h with ⟨a, rfl, q⟩ | ⟨nb, q⟩
  · cases (show v = Value.bool a from rx)
    by_cases e : a = b
    · subst e
      exact wpAny_isNot_self rfl ⟨.bl false, H, I, rfl, by simpa using q⟩
    · exact wpAny_isNot_other rfl (fun z => e (Value.bool.inj z)) ⟨.bl true, H, I, rfl, by simpa [e] using q⟩
  · refine wpAny_isNot_other (plain_bool rx b) (fun z => ?_) ⟨.bl true, H, I, rfl, q⟩
    subst z
    cases x with
    | bl a => exact nb
    | non => cases rx
    | ref a => cases rx
    | ty a => cases rx
    | int a => obtain ⟨t, z⟩ := rx; cases z
    | str a => obtain ⟨t, z⟩ := rx; cases z
    | byt a => obtain ⟨t, z⟩ := rx; cases z
    | flt a => obtain ⟨t, z⟩ := rx; cases z
theorem isS_sound {neg : Bool} : OpS ⟨X.K, cl⟩ (rIsS neg) (T.isS neg) := fun A F H Q E x y v w ok e rx ry o => by
  cases y <;> (try exact o.elim)
  cases ry
  refine ⟨_, rfl, ?_⟩
  cases x with
  | bl a => cases rx; exact .inl ⟨_, rfl, Out.here o e rfl⟩
  | non => cases rx; exact .inr ⟨trivial, Out.here o e rfl⟩
  | int i => cases rx; exact .inr ⟨trivial, Out.here o e rfl⟩
  | str i => cases rx; exact .inr ⟨trivial, Out.here o e rfl⟩
  | lst g ts => obtain ⟨a, vs, rfl, _⟩ := rx; exact .inr ⟨trivial, Out.here o e rfl⟩
  | tup ts => obtain ⟨a, vs, rfl, _⟩ := rx; exact .inr ⟨trivial, Out.here o e rfl⟩
  | ro ts => obtain ⟨a, vs, rfl, _⟩ := rx; exact .inr ⟨trivial, Out.here o e rfl⟩
  | ins _ _ _ _ => exact o.elim
  | dct _ _ _ => exact o.elim
  | exn _ _ _ => exact o.elim
theorem opD_isA : OpD X cl (compareOp .Is) T.isA := opD_isN.or ⟨_, op_isS, isS_sound⟩ fun _ _ => rfl
theorem opD_notA : OpD X cl (compareOp .IsNot) T.notA := opD_notN.or ⟨_, op_notS, isS_sound⟩ fun _ _ => rfl
end
end Py

set_option Elab.async false
set_option linter.all false
set_option maxRecDepth 100000
set_option maxHeartbeats 4000000
namespace Py
open PySem L2 PySem.Spec PyProof.Rows Evl

/-! ### pop, reverse, clear of a list of one's own -/
namespace S
/-- y = xs.pop(k) -/
def popAsg (i j : Nat) (k : P.Ex1) : Sx := fun env => match env[i]? with
  | some (some (.ol ts)) => (k env).thenX env fun z => (match z with
    | .int z => (match ixN ts.length z with
      | some m => (match ts[m]? with
        | some y => if lfit ts.length = true ∧ j < env.length ∧ i ≠ j then .nx ((env.set i (some (.ol (ts.eraseIdx m)))).set j (some (.fz y))) else .stuck
        | none => .stuck)
      | none => .stuck)
    | _ => .stuck)
  | _ => .stuck
/-- ys.append(xs.pop(k)) -/
def popApp (i j : Nat) (k : P.Ex1) : Sx := fun env => match env[j]? with
  | some (some (.ol us)) => (match env[i]? with
    | some (some (.ol ts)) => (k env).thenX env fun z => (match z with
      | .int z => (match ixN ts.length z with
        | some m => (match ts[m]? with
          | some y => if lfit ts.length = true ∧ us.length < sizeLine ∧ i ≠ j then .nx ((env.set i (some (.ol (ts.eraseIdx m)))).set j (some (.ol (us ++ [y])))) else .stuck
          | none => .stuck)
        | none => .stuck)
      | _ => .stuck)
    | _ => .stuck)
  | _ => .stuck
/-- y = xs.pop() -/
def popLast (i j : Nat) : Sx := fun env => match env[i]? with
  | some (some (.ol ts)) => (match ts[ts.length - 1]? with
    | some y => if j < env.length ∧ i ≠ j then .nx ((env.set i (some (.ol ts.dropLast))).set j (some (.fz y))) else .stuck
    | none => .stuck)
  | _ => .stuck
def rev (i : Nat) : Sx := fun env => match env[i]? with
  | some (some (.ol ts)) => .nx (env.set i (some (.ol ts.reverse)))
  | _ => .stuck
def clear (i : Nat) : Sx := fun env => match env[i]? with
  | some (some (.ol ts)) => .nx (env.set i (some (.ol [])))
  | _ => .stuck
end S
theorem reps.erase {G : Ge} {A : Al} {F : Hp} : ∀ {ts : List T} {vs : List V} (m : Nat), reps G A F ts vs → reps G A F (ts.eraseIdx m) (vs.eraseIdx m)
  | [], _, _, h => by rw [show _ = [] from h]; rfl
  | _ :: _, _, 0, ⟨v, ws, h1, h2, h3⟩ => by rw [h1]; exact h3
  | _ :: _, _, m + 1, ⟨v, ws, h1, h2, h3⟩ => by rw [h1]; exact ⟨v, _, rfl, h2, reps.erase m h3⟩
theorem reps.dropLast {G : Ge} {A : Al} {F : Hp} {ts : List T} {vs : List V} (h : reps G A F ts vs) : reps G A F ts.dropLast vs.dropLast := by
  rw [List.dropLast_eq_take, List.dropLast_eq_take, h.length]
  exact h.take _
section
variable {G : Ge} {d i j : Nat} {W : WX} {te tk : TE} {k : P.Ex1}
theorem ixN_rg {n m : Nat} {z : Int} (h : ixN n z = some m) (hn : lfit n = true) : -(2 ^ 63) ≤ z ∧ z < 2 ^ 63 := by
  have h1 := (ixN_seq h).2.2
  have h2 : n ≤ sizeLine := of_decide_eq_true hn
  have h3 : sizeLine = 16777216 := rfl
  omega
theorem ss_popAsg (hk : SE G d W tk k) (hp : j = 0 → G.c.pin = none) : SS G d W (tAsg (tBM G.K "list" rPopAt (tVar i) (tCons tk tNil)) (gName j)) (S.popAsg i j k) := fun A0 F0 H0 A env σ F H D R o => by
  unfold S.popAsg at o
  split at o
  · rename_i ts e
    obtain ⟨pa, vs, h1, h2, h3, h4⟩ := R.ol i ts e
    refine ⟨_, h1, Or.inl ⟨rfl, vs, SqL.of h3⟩, R.runX hk o fun r v F1 H1 R1 r1 o1 => ?_⟩
    cases r <;> (try exact o1.elim)
    rename_i z
    have hv : v = .int z := r1 rfl
    subst hv
    obtain ⟨pb, vs1, k1, k2, k3, k4⟩ := R1.ol i ts e
    rw [h1] at k1
    cases k1
    have o2 : OutS G d A0 F0 H0 W D (match ixN ts.length z with
      | some m => (match ts[m]? with
        | some y => if lfit ts.length = true ∧ j < env.length ∧ i ≠ j then .nx ((env.set i (some (.ol (ts.eraseIdx m)))).set j (some (.fz y))) else .stuck
        | none => .stuck)
      | none => .stuck) := o1
    cases hm : ixN ts.length z with
    | none => rw [hm] at o2; exact o2.elim
    | some m =>
      simp only [hm] at o2
      cases hy : ts[m]? with
      | none => rw [hy] at o2; exact o2.elim
      | some y =>
        simp only [hy] at o2
        obtain ⟨⟨c1, c2, c3⟩, o3⟩ := OutS.of_if o2
        obtain ⟨b1, b2⟩ := ixN_rg hm c1
        obtain ⟨v, hv, rv⟩ := k4.get hy
        refine ⟨_, vs1, z, m, v, rfl, rfl, k3, b1, b2, by rw [k4.length]; exact (ixN_seq hm).1, hv, ?_⟩
        have R2 := R1.wr e h1 k2 (k4.erase m)
        obtain ⟨A', R3⟩ := R2.set (i := j) rv (by rw [List.length_set]; exact c2) hp
        exact o3 A' _ _ _ R3
  · exact o.elim
theorem ss_popLast (hp : j = 0 → G.c.pin = none) : SS G d W (tAsg (tBM0 G.K "list" rPop (tVar i)) (gName j)) (S.popLast i j) := fun A0 F0 H0 A env σ F H D R o => by
  unfold S.popLast at o
  split at o
  · rename_i ts e
    obtain ⟨pa, vs, h1, h2, h3, h4⟩ := R.ol i ts e
    refine ⟨_, h1, Or.inl ⟨rfl, vs, SqL.of h3⟩, ?_⟩
    cases hy : ts[ts.length - 1]? with
    | none => rw [hy] at o; exact o.elim
    | some y =>
      simp only [hy] at o
      obtain ⟨⟨c1, c2⟩, o3⟩ := OutS.of_if o
      obtain ⟨v, hv, rv⟩ := h4.get hy
      refine ⟨_, vs, v, rfl, rfl, h3, by rw [h4.length]; exact hv, ?_⟩
      have R2 := R.wr e h1 h2 h4.dropLast
      obtain ⟨A', R3⟩ := R2.set (i := j) rv (by rw [List.length_set]; exact c1) hp
      exact o3 A' _ _ _ R3
  · exact o.elim
theorem ss_popApp (hk : SE G d W tk k) : SS G d W (tDrop (tBM G.K "list" rAppend (tVar j) (tCons (tBM G.K "list" rPopAt (tVar i) (tCons tk tNil)) tNil))) (S.popApp i j k) := fun A0 F0 H0 A env σ F H D R o => by
  unfold S.popApp at o
  split at o
  · rename_i us ej
    split at o
    · rename_i ts e
      obtain ⟨pj, ws, g1, g2, g3, g4⟩ := R.ol j us ej
      obtain ⟨pa, vs, h1, h2, h3, h4⟩ := R.ol i ts e
      refine ⟨_, g1, Or.inl ⟨rfl, ws, SqL.of g3⟩, _, h1, Or.inl ⟨rfl, vs, SqL.of h3⟩, R.runX hk o fun r v F1 H1 R1 r1 o1 => ?_⟩
      cases r <;> (try exact o1.elim)
      rename_i z
      have hv : v = .int z := r1 rfl
      subst hv
      obtain ⟨pb, vs1, k1, k2, k3, k4⟩ := R1.ol i ts e
      rw [h1] at k1
      cases k1
      have o2 : OutS G d A0 F0 H0 W D (match ixN ts.length z with
        | some m => (match ts[m]? with
          | some y => if lfit ts.length = true ∧ us.length < sizeLine ∧ i ≠ j then .nx ((env.set i (some (.ol (ts.eraseIdx m)))).set j (some (.ol (us ++ [y])))) else .stuck
          | none => .stuck)
        | none => .stuck) := o1
      cases hm : ixN ts.length z with
      | none => rw [hm] at o2; exact o2.elim
      | some m =>
        simp only [hm] at o2
        cases hy : ts[m]? with
        | none => rw [hy] at o2; exact o2.elim
        | some y =>
          simp only [hy] at o2
          obtain ⟨⟨c1, c2, c3⟩, o3⟩ := OutS.of_if o2
          obtain ⟨b1, b2⟩ := ixN_rg hm c1
          obtain ⟨v, hv, rv⟩ := k4.get hy
          refine ⟨_, vs1, z, m, v, rfl, rfl, k3, b1, b2, by rw [k4.length]; exact (ixN_seq hm).1, hv, ?_⟩
          have R2 := R1.wr e h1 k2 (k4.erase m)
          have ej' : (env.set i (some (.ol (ts.eraseIdx m))))[j]? = some (some (.ol us)) := by
            rw [List.getElem?_set_ne c3]
            exact ej
          obtain ⟨pk, ws1, l1, l2, l3, l4⟩ := R2.ol j us ej'
          rw [g1] at l1
          cases l1
          refine ⟨_, ws1, v, rfl, rfl, l3, by rw [l4.length]; exact c2, ?_⟩
          exact o3 _ _ _ _ (R2.wr ej' g1 l2 (l4.append (reps.one rv)))
    · exact o.elim
  · exact o.elim
theorem ss_rev : SS G d W (tDrop (tBM0 G.K "list" rReverse (tVar i))) (S.rev i) := fun A0 F0 H0 A env σ F H D R o => by
  unfold S.rev at o
  split at o
  · rename_i ts e
    obtain ⟨pa, vs, h1, h2, h3, h4⟩ := R.ol i ts e
    exact ⟨_, h1, Or.inl ⟨rfl, vs, SqL.of h3⟩, _, vs, rfl, rfl, h3, o _ _ _ _ (R.wr e h1 h2 h4.reverse)⟩
  · exact o.elim
theorem ss_clear : SS G d W (tDrop (tBM0 G.K "list" rClear (tVar i))) (S.clear i) := fun A0 F0 H0 A env σ F H D R o => by
  unfold S.clear at o
  split at o
  · rename_i ts e
    obtain ⟨pa, vs, h1, h2, h3, h4⟩ := R.ol i ts e
    exact ⟨_, h1, Or.inl ⟨rfl, vs, SqL.of h3⟩, _, vs, rfl, rfl, h3, o _ _ _ _ (R.wr e h1 h2 (us := []) (ws := []) rfl)⟩
  · exact o.elim
end
section
variable {cl : Cl} {X : Cx} {d i j : Nat} {W : WX} {e : Expr} {p : P.Ex1} {pos p1 p' p2 : Pos} {x y : Str} {apos apos2 : Pos}
theorem ds_popAsg (hk : DE cl X d W e p) (hNd : X.N.Nodup) (hN : X.N[i]? = some x := by rfl) (hv : Vis X.env.scope x := by first | exact Or.inl rfl | exact Or.inr (Or.inl rfl) | exact Or.inr (Or.inr rfl)) (hd : (x == ("__debug__" : Str)) = false := by decide) (hcd : (x == ("__classdict__" : Str)) = false := by decide)
    (hy : X.N[j]? = some y := by rfl) (hyl : Loc X.env.scope y := by first | exact Or.inl rfl | exact Or.inr rfl) (hf : X.fn y = true ∨ X.env.scope.names.lookup y = some .local := by first | exact .inl rfl | exact .inr rfl)
    (hbase : attributeBase (.Name x p') "pop" X.env (eval (.Name x p') X.env) = eval (.Name x p') X.env := by rfl)
    (hfew : ((backTo p1 (starEach [e] X.env)).all (fun x => !x.1) && (backToKw p1 (keywordEach [] X.env)).all (fun x => x.1.isSome) && decide ([e].length + ([] : List Keyword).length + (if ([] : List Keyword).isEmpty then 0 else 1) < 30)) = true := by rfl)
    (hline : (apos.endLine == p1.line) = true := by rfl) (hs : starEach [e] X.env = (false, eval e X.env) :: starEach [] X.env := by rfl) (hplain : (backTo p1 (starEach [] X.env)).any (·.1) = false := by rfl)
    (hsw : swapsWith (.Call (.Attribute (.Name x p') "pop" apos) [e] [] p1) (some (.Name y p2)) pos.line X.env = pure false := by rfl) (hp : j = 0 → cl.pin = none := by first | (intro _; assumption) | (intro h; cases h)) : DS cl X d W (.Assign [.Name y p2] (.Call (.Attribute (.Name x p') "pop" apos) [e] [] p1) pos) (S.popAsg i j p) := by
  obtain ⟨t, a1, a2⟩ := hk
  exact ⟨_, ps_set hNd hy hyl (pe_bm PySem.F.plainAttrs_list PySem.F.slot_list_pop PySem.F.type_list_pop mt_popAt (pe_var hN hv hd hcd) (pa_cons a1 pa_nil hs) hbase hfew hline hs hplain) hsw hf, ss_popAsg a2 hp⟩
theorem ds_popLast (hNd : X.N.Nodup) (hN : X.N[i]? = some x := by rfl) (hv : Vis X.env.scope x := by first | exact Or.inl rfl | exact Or.inr (Or.inl rfl) | exact Or.inr (Or.inr rfl)) (hd : (x == ("__debug__" : Str)) = false := by decide) (hcd : (x == ("__classdict__" : Str)) = false := by decide)
    (hy : X.N[j]? = some y := by rfl) (hyl : Loc X.env.scope y := by first | exact Or.inl rfl | exact Or.inr rfl) (hf : X.fn y = true ∨ X.env.scope.names.lookup y = some .local := by first | exact .inl rfl | exact .inr rfl)
    (hbase : attributeBase (.Name x p') "pop" X.env (eval (.Name x p') X.env) = eval (.Name x p') X.env := by rfl) (hline : (apos.endLine == p1.line) = true := by rfl)
    (hsw : swapsWith (.Call (.Attribute (.Name x p') "pop" apos) [] [] p1) (some (.Name y p2)) pos.line X.env = pure false := by rfl) (hp : j = 0 → cl.pin = none := by first | (intro _; assumption) | (intro h; cases h)) : DS cl X d W (.Assign [.Name y p2] (.Call (.Attribute (.Name x p') "pop" apos) [] [] p1) pos) (S.popLast i j) :=
  ⟨_, ps_set hNd hy hyl (pe_bm0 PySem.F.plainAttrs_list PySem.F.slot_list_pop PySem.F.type_list_pop mt_pop (pe_var hN hv hd hcd) hbase hline) hsw hf, ss_popLast hp⟩
theorem ds_popApp (hk : DE cl X d W e p) (hN : X.N[i]? = some x := by rfl) (hv : Vis X.env.scope x := by first | exact Or.inl rfl | exact Or.inr (Or.inl rfl) | exact Or.inr (Or.inr rfl)) (hd : (x == ("__debug__" : Str)) = false := by decide) (hcd : (x == ("__classdict__" : Str)) = false := by decide)
    (hNy : X.N[j]? = some y := by rfl) (hvy : Vis X.env.scope y := by first | exact Or.inl rfl | exact Or.inr (Or.inl rfl) | exact Or.inr (Or.inr rfl)) (hdy : (y == ("__debug__" : Str)) = false := by decide) (hcdy : (y == ("__classdict__" : Str)) = false := by decide)
    (hbase : attributeBase (.Name x p') "pop" X.env (eval (.Name x p') X.env) = eval (.Name x p') X.env := by rfl)
    (hfew : ((backTo p1 (starEach [e] X.env)).all (fun x => !x.1) && (backToKw p1 (keywordEach [] X.env)).all (fun x => x.1.isSome) && decide ([e].length + ([] : List Keyword).length + (if ([] : List Keyword).isEmpty then 0 else 1) < 30)) = true := by rfl)
    (hline : (apos.endLine == p1.line) = true := by rfl) (hs : starEach [e] X.env = (false, eval e X.env) :: starEach [] X.env := by rfl) (hplain : (backTo p1 (starEach [] X.env)).any (·.1) = false := by rfl)
    {py pc : Pos}
    (hbase2 : attributeBase (.Name y py) "append" X.env (eval (.Name y py) X.env) = eval (.Name y py) X.env := by rfl)
    (hfew2 : ((backTo pc (starEach [.Call (.Attribute (.Name x p') "pop" apos) [e] [] p1] X.env)).all (fun x => !x.1) && (backToKw pc (keywordEach [] X.env)).all (fun x => x.1.isSome) && decide ([Expr.Call (.Attribute (.Name x p') "pop" apos) [e] [] p1].length + ([] : List Keyword).length + (if ([] : List Keyword).isEmpty then 0 else 1) < 30)) = true := by rfl)
    (hline2 : (apos2.endLine == pc.line) = true := by rfl) (hs2 : starEach [.Call (.Attribute (.Name x p') "pop" apos) [e] [] p1] X.env = (false, eval (.Call (.Attribute (.Name x p') "pop" apos) [e] [] p1) X.env) :: starEach [] X.env := by rfl) (hplain2 : (backTo pc (starEach [] X.env)).any (·.1) = false := by rfl)
    (hsw : swapsWith (.Call (.Attribute (.Name y py) "append" apos2) [.Call (.Attribute (.Name x p') "pop" apos) [e] [] p1] [] pc) none pos.line X.env = pure false := by rfl) :
    DS cl X d W (.Expr (.Call (.Attribute (.Name y py) "append" apos2) [.Call (.Attribute (.Name x p') "pop" apos) [e] [] p1] [] pc) pos) (S.popApp i j p) := by
  obtain ⟨t, a1, a2⟩ := hk
  exact ⟨_, ps_expr (pe_bm PySem.F.plainAttrs_list PySem.F.slot_list_append PySem.F.type_list_append mt_append (pe_var hNy hvy hdy hcdy)
    (pa_cons (pe_bm PySem.F.plainAttrs_list PySem.F.slot_list_pop PySem.F.type_list_pop mt_popAt (pe_var hN hv hd hcd) (pa_cons a1 pa_nil hs) hbase hfew hline hs hplain) pa_nil hs2) hbase2 hfew2 hline2 hs2 hplain2) hsw, ss_popApp a2⟩
theorem ds_rev (hN : X.N[i]? = some x := by rfl) (hv : Vis X.env.scope x := by first | exact Or.inl rfl | exact Or.inr (Or.inl rfl) | exact Or.inr (Or.inr rfl)) (hd : (x == ("__debug__" : Str)) = false := by decide) (hcd : (x == ("__classdict__" : Str)) = false := by decide)
    (hbase : attributeBase (.Name x p') "reverse" X.env (eval (.Name x p') X.env) = eval (.Name x p') X.env := by rfl) (hline : (apos.endLine == p1.line) = true := by rfl)
    (hsw : swapsWith (.Call (.Attribute (.Name x p') "reverse" apos) [] [] p1) none pos.line X.env = pure false := by rfl) : DS cl X d W (.Expr (.Call (.Attribute (.Name x p') "reverse" apos) [] [] p1) pos) (S.rev i) :=
  ⟨_, ps_expr (pe_bm0 PySem.F.plainAttrs_list PySem.F.slot_list_reverse PySem.F.type_list_reverse mt_reverse (pe_var hN hv hd hcd) hbase hline) hsw, ss_rev⟩
theorem ds_clear (hN : X.N[i]? = some x := by rfl) (hv : Vis X.env.scope x := by first | exact Or.inl rfl | exact Or.inr (Or.inl rfl) | exact Or.inr (Or.inr rfl)) (hd : (x == ("__debug__" : Str)) = false := by decide) (hcd : (x == ("__classdict__" : Str)) = false := by decide)
    (hbase : attributeBase (.Name x p') "clear" X.env (eval (.Name x p') X.env) = eval (.Name x p') X.env := by rfl) (hline : (apos.endLine == p1.line) = true := by rfl)
    (hsw : swapsWith (.Call (.Attribute (.Name x p') "clear" apos) [] [] p1) none pos.line X.env = pure false := by rfl) : DS cl X d W (.Expr (.Call (.Attribute (.Name x p') "clear" apos) [] [] p1) pos) (S.clear i) :=
  ⟨_, ps_expr (pe_bm0 PySem.F.plainAttrs_list PySem.F.slot_list_clear PySem.F.type_list_clear mt_clear (pe_var hN hv hd hcd) hbase hline) hsw, ss_clear⟩
end
end Py

set_option Elab.async false
set_option linter.all false
set_option maxRecDepth 100000
set_option maxHeartbeats 4000000
namespace Py
open PySem L2 PySem.Spec PyProof.Rows Evl

/-! ### sorted(whole numbers) -/
def isort (l : List Int) : List Int := l.mergeSort (fun a b => decide (a ≤ b))
theorem isort_perm (l : List Int) : (isort l).Perm l := List.mergeSort_perm l _
theorem isort_pw (l : List Int) : (isort l).Pairwise (· ≤ ·) := by
  have h := List.pairwise_mergeSort (le := fun a b : Int => decide (a ≤ b)) (fun a b c h1 h2 => by simp at *; omega) (fun a b => by simp; omega) l
  exact h.imp fun h => of_decide_eq_true h
theorem isort_unique {l m : List Int} (hp : m.Perm l) (hs : m.Pairwise (· ≤ ·)) : m = isort l :=
  List.Perm.eq_of_pairwise (fun a b _ _ h1 h2 => Int.le_antisymm h1 h2) hs (isort_pw l) (hp.trans (isort_perm l).symm)
namespace B
def sorted : List T → Option T
  | [.lst _ ts] => (match nums ts with | some l => some (.lst none ((isort l).map T.int)) | none => none)
  | [.ro ts] => (match nums ts with | some l => some (.lst none ((isort l).map T.int)) | none => none)
  | _ => none
end B
section
variable {cl : Cl} {X : Cx}
theorem reps_of_ints {G : Ge} {A : Al} {F : Hp} : ∀ l : List Int, reps G A F (l.map T.int) (l.map V.int)
  | [] => rfl
  | x :: l => ⟨.int x, l.map V.int, rfl, rfl, reps_of_ints l⟩
theorem crd_sorted : CRd cl X (.builtin "sorted") B.sorted := ⟨_, cr_sortedI, fun A F H Q E ts vs ok e r o => by
  unfold B.sorted at o
  split at o
  · rename_i g us
    obtain ⟨v, rfl, a, ws, rfl, h1, h2, h3⟩ := reps1 r
    cases z : B.nums us with
    | none => simp only [z] at o; exact o.elim
    | some l =>
      simp only [z] at o
      have hw := ints_of z h3
      subst hw
      exact ⟨a, l, rfl, .of (e _ _ h1), fun ns' p hp hs hn => by rw [isort_unique hp hs]; exact Out.lst o ok e (reps_of_ints _) p hn⟩
  · rename_i us
    obtain ⟨v, rfl, a, ws, rfl, h1, h3⟩ := reps1 r
    cases z : B.nums us with
    | none => simp only [z] at o; exact o.elim
    | some l =>
      simp only [z] at o
      have hw := ints_of z h3
      subst hw
      exact ⟨a, l, rfl, ex_l e h1, fun ns' p hp hs hn => by rw [isort_unique hp hs]; exact Out.lst o ok e (reps_of_ints _) p hn⟩
  · exact o.elim⟩
end
end Py

set_option Elab.async false
set_option linter.all false
set_option maxRecDepth 100000
set_option maxHeartbeats 4000000
namespace Py
open PySem L2 PySem.Spec PyProof.Rows Evl

/-! ### fields of own instances -/
def T.fldI (c : Nat) (f : Str) : T → Option T
  | .ins _ c' ns ts => if c' = c then (ns.zip ts).lookup f else none
  | _ => none
/-- what a plain class must say, and that it has none of these names itself -/
structure Kls (K : PySem.W.Frag) (C : Addr) : Prop where
  cl : Cls K C
section
variable {cl : Cl} {X : Cx} {d : Nat} {W : WX} {e : Expr} {p : P.Ex1} {pos : Pos} {f : Str} {c : Nat}
theorem de_fld (C : Cls X.K (cl.f c)) (hno : NoAttr X.K (cl.f c) f) (h : DE cl X d W e p) (hb : attributeBase e f X.env (eval e X.env) = eval e X.env := by rfl) : DE cl X d W (.Attribute e f pos) (P.un (T.fldI c f) p) := by
  obtain ⟨te, a1, a2⟩ := h
  refine ⟨_, pe_fld a1 hb, fun A env σ F H Q R e o => a2 A env σ F H _ R e (Outg.bind o fun y w F1 H1 g1 rx o1 => ?_)⟩
  unfold T.fldI at o1
  cases y with
  | ins g c' ns ts =>
    simp only at o1
    split at o1
    · rename_i hcc
      subst hcc
      cases q : (ns.zip ts).lookup f with
      | none => rw [q] at o1; exact o1.elim
      | some t =>
        rw [q] at o1
        obtain ⟨a, dx, vs, rfl, e1, e2, e3, e4⟩ := rx
        obtain ⟨v, hv, rv⟩ := zip_lookup e4 q
        exact ⟨a, _, dx, _, v, rfl, g1.sub _ _ e1, C, hno, hv, Out.here o1 g1.sub rv⟩
    · exact o1.elim
  | _ => exact o1.elim
end
/-! ### C(e, ..): what __init__ raises is wished at the slots -/
def tMkS (C : Addr) (sp : Sp) (E : L2.St → XK) (t : TA) : TE := fun σ H Q => t σ H fun ws H1 => ∀ p q, H1 p = none → H1 q = none → q ≠ p →
  sp (.ref p :: ws) (upd (upd H1 q (.own p)) p (.ins C q [])) (fun v H2 => v = .non ∧ Q (.ref p) H2) (E σ)
section
variable {X : Cx} {k : Nat} {fI C : Addr} {fd : FuncData} {ps : List Str} {sp : Sp} {E : L2.St → XK}
theorem run_mkS {pl : List (Addr × Obj)} {σ : L2.St} {H : Hp} {s : Shared} {Q : VK} {us : List Value} {ws : List V} (M : Mk X.K C fI) (F : FnOk X.prog X.w X.K X.mg X.base (L2.CX X.prog X.w) k fI fd ps sp) (hr : Room (k + 1) X.A) (hb : Binds X.K fd ps [])
    (hx : PassesAt (L2.CX X.prog X.w) X σ (E σ)) (I : Inv X pl σ H s) (r : Vals ws us) (h : ∀ p q, H p = none → H q = none → q ≠ p → sp (.ref p :: ws) (upd (upd H q (.own p)) p (.ins C q [])) (fun v H2 => v = .non ∧ Q (.ref p) H2) (E σ)) :
    wpAny (model X.prog X.w) X.A (call (.ref C) us) (EP X pl σ Q) X.xe s := by
  have h1 : H (s.heap.objs.size + 1) = none := I.hok.fresh (Nat.le_succ _)
  have h2 : H s.heap.objs.size = none := I.hok.fresh (Nat.le_refl _)
  have w := h _ _ h1 h2 (Nat.ne_of_lt (Nat.lt_succ_self _))
  have J := Inv.made (C := C) I
  have rr : Vals (V.ref (s.heap.objs.size + 1) :: ws) (Value.ref (s.heap.objs.size + 1) :: us) := .cons rfl r
  have len : (Value.ref (s.heap.objs.size + 1) :: us).length = ps.length := by rw [← rr.length]; exact F.len _ _ _ _ w
  have bnd := hb _ _ J.kIn ((congrArg List.length (List.append_nil _)).trans len)
  rw [List.append_nil] at bnd
  have go := F.run _ X.stack _ _ ⟨Value.ref (s.heap.objs.size + 1) :: us, []⟩ _ _ _ (E σ) (hr.make C us []) (J.env0.make C us []) bnd rr w
  refine wpAny_call (make_map (f := fI) I.kIn M.makes M.init (beq_iff_eq.mp M.fn) (codeAny_mono go fun res s' q => ?_))
  match res, q with
  | .error e, q => exact hx pl _ _ e s' J q
  | .ok (.ret u), q =>
    obtain ⟨v, H', J3, rv, ev, w3⟩ := J.after q
    subst ev
    exact ⟨rv, ⟨V.ref (s.heap.objs.size + 1), H', J3, rfl, w3⟩⟩
  | .ok .next, q => exact q.elim
  | .ok .brk, q => exact q.elim
  | .ok .cont, q => exact q.elim
theorem pe_mkS {x : Str} {e : Expr} {es : List Expr} {t : TA} {p pos : Pos} (M : Mk X.K C fI) (F : FnOk X.prog X.w X.K X.mg X.base (L2.CX X.prog X.w) k fI fd ps sp) (hr : Room (k + 1) X.A) (hg : Gl X x) (hm : X.mg x = some (.ref C)) (hb : Binds X.K fd ps [])
    (hx : ∀ σ, PassesAt (L2.CX X.prog X.w) X σ (E σ)) (ha : PA X (e :: es) t) (hdb : (x == ("__debug__" : Str)) = false) (he : starEach (e :: es) X.env = (false, eval e X.env) :: starEach es X.env) (hpl : (backTo pos (starEach es X.env)).any (·.1) = false) :
    PE X (.Call (.Name x p) (e :: es) [] pos) (tMkS C sp E t) := by
  refine ⟨fun pl s σ H Q I h => wpAny_Call_Name_kw (ld_glob I hg hm (PySem.W.callWith_K (h₀ := X.base) I.ok.mod.kin M.kp (thn (ha.run pos pl s σ H _ I h) ?_) he hpl) hdb)⟩
  rintro us s1 ⟨ws, H1, I1, r, q⟩
  exact ⟨I1.kIn, run_mkS M F hr hb (hx σ) I1 r q⟩
end
end Py

set_option Elab.async false
set_option linter.all false
set_option maxRecDepth 100000
set_option maxHeartbeats 4000000
namespace Py
open PySem L2 PySem.Spec PyProof.Rows Evl

/-! ### self.f = e, self an instance of the frame's own -/
namespace S
def fset (c i : Nat) (f : Str) (p : P.Ex1) : Sx := fun env => (p (hide env)).then_ env fun t => match env[i]? with
  | some (some (.oi c' ns ts)) => if c' = c ∧ ns.contains f = false ∧ ns.length < 1000 then .nx (env.set i (some (.oi c (ns ++ [f]) (ts ++ [t])))) else .stuck
  | _ => .stuck
end S
theorem putF_new {f : Str} {y : V} : ∀ {ns : List Str} {vs : List V}, vs.length = ns.length → ns.contains f = false → putF f y (ns.zip vs) = (ns ++ [f]).zip (vs ++ [y])
  | [], [], _, _ => rfl
  | [], _ :: _, h, _ => by simp at h
  | _ :: _, [], h, _ => by simp at h
  | n :: ns, v :: vs, h, c => by
    rw [List.contains_cons, Bool.or_eq_false_iff] at c
    have hn : ¬ n = f := fun e => by
      subst e
      rw [beq_self_eq_true] at c
      cases c.1
    show (if n = f then (n, y) :: ns.zip vs else (n, v) :: putF f y (ns.zip vs)) = _
    rw [if_neg hn, putF_new (by simpa using h) c.2]
    rfl
section
variable {G : Ge} {d i : Nat} {A0 A : Al} {F0 H0 F H : Hp} {env : Fv} {σ : L2.St}
theorem Rel.wrI {p dx : Addr} {c : Nat} {ns ns' : List Str} {ts us : List T} {ws : List V} (R : Rel G d A0 F0 H0 A env σ F H) (e : env[i]? = some (some (.oi c ns ts))) (hs : σ[i]? = some (some (.ref p))) (hA : A (d, i) = some p) (hl : ws.length = ns'.length) (h : reps G A0 F us ws) :
    Rel G d A0 F0 H0 A (env.set i (some (.oi c ns' us))) σ F (upd H p (.ins (G.cl c) dx (ns'.zip ws))) where
  ok0 := R.ok0
  dep0 := R.dep0
  len := by rw [List.length_set]; exact R.len
  agree := R.agree
  dep := R.dep
  inj := R.inj
  own := fun j a z => by
    obtain ⟨h1, h2, h3⟩ := R.own j a z
    refine ⟨h1, h2, ?_⟩
    by_cases q : a = p
    · rw [q, upd_same]; trivial
    · rw [upd_ne q]; exact h3
  exF := R.exF
  sub := fun a o y => by
    have q : a ≠ p := fun z => by rw [z, (R.own i p hA).1] at y; cases y
    rw [upd_ne q]; exact R.sub a o y
  keep := fun a o y => by
    have q : a ≠ p := fun z => by rw [z, (R.own i p hA).2.1] at y; cases y
    rw [upd_ne q]; exact R.keep a o y
  sep := R.sep
  fz := fun j u y => by
    by_cases q : i = j
    · subst q
      rw [List.getElem?_set_self (get_lt e)] at y
      cases y
    · rw [List.getElem?_set_ne q] at y; exact R.fz j u y
  ol := fun j u y => by
    by_cases q : i = j
    · subst q
      rw [List.getElem?_set_self (get_lt e)] at y
      cases y
    · rw [List.getElem?_set_ne q] at y
      obtain ⟨b, vs, k1, k2, k3, k4⟩ := R.ol j u y
      refine ⟨b, vs, k1, k2, ?_, k4⟩
      rw [upd_ne (fun z => q (Prod.mk.inj (R.inj _ _ _ hA (z ▸ k2))).2)]
      exact k3
  oi := fun j c' ns2 u y => by
    by_cases q : i = j
    · subst q
      rw [List.getElem?_set_self (get_lt e)] at y
      cases y
      exact ⟨p, dx, ws, hs, hA, upd_same, hl, h⟩
    · rw [List.getElem?_set_ne q] at y
      obtain ⟨b, dx', vs, k1, k2, k3, k4, k5⟩ := R.oi j c' ns2 u y
      refine ⟨b, dx', vs, k1, k2, ?_, k4, k5⟩
      rw [upd_ne (fun z => q (Prod.mk.inj (R.inj _ _ _ hA (z ▸ k2))).2)]
      exact k3
  od := fun j kk u y => by
    by_cases q : i = j
    · subst q
      rw [List.getElem?_set_self (get_lt e)] at y
      cases y
    · rw [List.getElem?_set_ne q] at y
      obtain ⟨b, vs, k1, k2, k3, k4⟩ := R.od j kk u y
      refine ⟨b, vs, k1, k2, ?_, k4⟩
      rw [upd_ne (fun z => q (Prod.mk.inj (R.inj _ _ _ hA (z ▸ k2))).2)]
      exact k3
  pin := R.pin
end
section
variable {cl : Cl} {X : Cx} {G : Ge} {d i : Nat} {W : WX} {te : TE} {p : P.Ex1} {f : Str}
theorem ss_fset {c : Nat} (hC : Cls G.K (G.cl c)) (hn : NoAttr G.K (G.cl c) f) (he : SE G d W te p) : SS G d W (sFld G.K (tVar i) te f) (S.fset c i f p) := fun A0 F0 H0 A env σ F H D R o => by
  refine R.run he o fun r v F1 H1 R1 r1 o1 => ?_
  cases q : env[i]? with
  | none => rw [q] at o1; exact o1.elim
  | some s =>
    cases s with
    | none => rw [q] at o1; exact o1.elim
    | some s =>
      cases s with
      | fz t => rw [q] at o1; exact o1.elim
      | ol t => rw [q] at o1; exact o1.elim
      | od t t2 => rw [q] at o1; exact o1.elim
      | oi c' ns ts =>
        rw [q] at o1
        obtain ⟨⟨c0, c1, c2⟩, o2⟩ := OutS.of_if o1
        subst c0
        obtain ⟨pa, dx, vs, k1, k2, k3, k4, k5⟩ := R1.oi i c' ns ts q
        refine ⟨_, k1, pa, G.cl c', dx, _, rfl, k3, hC, hn, ?_, ?_⟩
        · rw [List.length_zip, k4, Nat.min_self]; exact c2
        · rw [putF_new k4 c1]
          exact o2 A σ F1 _ (R1.wrI q k1 k2 (by rw [List.length_append, List.length_append, k4]; rfl) (k5.append (reps.one r1)))
theorem ds_fset {c : Nat} {x : Str} {e : Expr} {pos p' p2 : Pos} (hC : Cls X.K (cl.f c)) (hn : NoAttr X.K (cl.f c) f) (h : DE cl X d W e p) (hN : X.N[i]? = some x := by rfl) (hv : Vis X.env.scope x := by first | exact Or.inl rfl | exact Or.inr (Or.inl rfl) | exact Or.inr (Or.inr rfl)) (hd : (x == ("__debug__" : Str)) = false := by decide) (hcd : (x == ("__classdict__" : Str)) = false := by decide)
    (hs : swapsWith e (some (.Attribute (.Name x p2) f p')) pos.line X.env = pure false := by rfl) : DS cl X d W (.Assign [.Attribute (.Name x p2) f p'] e pos) (S.fset c i f p) := by
  obtain ⟨t, a1, a2⟩ := h
  exact ⟨_, ps_fld (pe_var hN hv hd hcd) a1 hs, ss_fset hC hn a2⟩
end
end Py

set_option Elab.async false
set_option linter.all false
set_option maxRecDepth 100000
set_option maxHeartbeats 4000000
namespace Py
open PySem L2 PySem.Spec PyProof.Rows Evl RT

/-! ### tuple(reversed(xs)), xs a list -/
def T.rev : T → Option T
  | .lst _ ts => some (.tup ts.reverse)
  | .ro ts => some (.tup ts.reverse)
  | _ => none
section
variable {cl : Cl} {X : Cx} {d : Nat} {W : WX} {e : Expr} {p : P.Ex1} {p1 p2 pos pos2 : Pos}
theorem de_tupRev (hm : X.mg "tuple" = none) (hm2 : X.mg "reversed" = none) (h : DE cl X d W e p) (hc : X.calm = true := by rfl) (hg : Gl X "tuple" := by rfl) (hg2 : Gl X "reversed" := by rfl) (hs : starEach [e] X.env = (false, eval e X.env) :: starEach [] X.env := by rfl)
    (hs2 : starEach [.Call (.Name "reversed" p2) [e] [] pos2] X.env = (false, eval (.Call (.Name "reversed" p2) [e] [] pos2) X.env) :: starEach [] X.env := by rfl) : DE cl X d W (.Call (.Name "tuple" p1) [.Call (.Name "reversed" p2) [e] [] pos2] [] pos) (P.un T.rev p) := by
  obtain ⟨te, a1, a2⟩ := h
  refine ⟨_, pe_tupRev hc hg hm hg2 hm2 a1 hs hs2, fun A env σ F H Q R e o => a2 A env σ F H _ R e (Outg.bind o fun y w F1 H1 g1 rx o1 => ?_)⟩
  unfold T.rev at o1
  cases y with
  | lst g ts =>
    obtain ⟨a, vs, rfl, h1, h2, h3⟩ := rx
    exact ⟨a, vs, rfl, .of (g1.sub _ _ h1), fun q hq => Out.tup o1 g1.sub h3.reverse q hq⟩
  | ro ts =>
    obtain ⟨a, vs, rfl, h1, h3⟩ := rx
    exact ⟨a, vs, rfl, ex_l g1.sub h1, fun q hq => Out.tup o1 g1.sub h3.reverse q hq⟩
  | _ => exact o1.elim
end
end Py

set_option Elab.async false
set_option linter.all false
set_option maxRecDepth 100000
set_option maxHeartbeats 4000000
namespace Py
open PySem L2 PySem.Spec PyProof.Rows Evl He

/-! ### raise C('text'), C without an __init__ of its own -/
structure X0ok (cl : Cl) (K : PySem.W.Frag) (mg : Str → Option Value) (x : Str) (c : Nat) : Prop where
  ex : PySem.W.excIn K (cl.f c) veBase "ValueError.__new__" = true
  kp : PySem.W.keepIn K (.ref (cl.f c)) = true
  sub : PySem.W.subIn K (.ref (cl.f c)) (.type "BaseException") = some true
  ty : PySem.W.typeIn K (.ref (cl.f c)) = some (.type "type")
  mg : mg x = some (.ref (cl.f c))
theorem x0_ok {ns : List Str} {K : PySem.W.Frag} {mg : Str → Option Value} {x : Str} {c : Nat} (h : (Fa.exc x).ok K = true) (hm : mg x = some (.ref (ga K x))) (hc : (clOf ns K).f c = ga K x) : X0ok (clOf ns K) K mg x c := by
  obtain ⟨h1, h2, h3, h4⟩ := exc_ok h
  exact ⟨by rw [hc]; exact h1, by rw [hc]; exact h2, by rw [hc]; exact h3, by rw [hc]; exact h4, by rw [hc]; exact hm⟩
section
variable {cl : Cl} {X : Cx} {G : Ge} {d : Nat} {W : WX} {x m : Str} {c : Nat} {j : Nat} {p p1 p2 pos : Pos}
theorem ss_raise0 : SS G d W (fun _ σ H => W (.ref (G.cl c)) none σ H) (S.raise0 c) := fun A0 F0 H0 A env σ F H D R o =>
  o A σ F H none R (.inl ⟨rfl, rfl, rfl⟩)
theorem ds_raise0 (Q : X0ok cl X.K X.mg x c) (tk : Takes X W := by exact tk_of) (hc : X.calm = true := by rfl) (hg : Gl X x := by rfl) (hdb : (x == ("__debug__" : Str)) = false := by decide) :
    DS cl X d W (.Raise (some (.Call (.Name x p) [.Constant (.str m) j p2] [] p1)) none pos) (S.raise0 c) :=
  ⟨_, ps_raise hc tk (pmk_own (bmB := veBase) PySem.F.excBase_ValueError Q.ex Q.mg Q.kp (raises_own Q.sub Q.ty) hg hdb), ss_raise0⟩
end
end Py

set_option Elab.async false
set_option linter.all false
set_option maxRecDepth 100000
set_option maxHeartbeats 4000000
namespace Py
open PySem L2 PySem.Spec PyProof.Rows Evl

/-! ### a pinned instance changes nothing of what stands for a tree -/
def Cl.pinned (cl : Cl) (x : Option (Nat × Addr)) : Cl := { cl with pin := x }
section
variable {K : PySem.W.Frag} {cl : Cl} {x : Option (Nat × Addr)} {A : Al} {F : Hp}
mutual
theorem rep.toPin : ∀ {t : T} {v : V}, rep ⟨K, cl⟩ A F t v → rep ⟨K, cl.pinned x⟩ A F t v
  | .non, _, h => h
  | .bl _, _, h => h
  | .int _, _, h => h
  | .str _, _, h => h
  | .lst _ _, _, ⟨a, vs, e1, e2, e3, e4⟩ => ⟨a, vs, e1, e2, e3, reps.toPin e4⟩
  | .tup _, _, ⟨a, vs, e1, e2, e4⟩ => ⟨a, vs, e1, e2, reps.toPin e4⟩
  | .ro _, _, ⟨a, vs, e1, e2, e4⟩ => ⟨a, vs, e1, e2, reps.toPin e4⟩
  | .ins _ _ _ _, _, ⟨a, dx, vs, e1, e2, e3, e5, e4⟩ => ⟨a, dx, vs, e1, e2, e3, e5, reps.toPin e4⟩
  | .dct _ _ _, _, ⟨a, vs, e1, e2, e3, e5, e4⟩ => ⟨a, vs, e1, e2, e3, e5, reps.toPin e4⟩
  | .exn _ _ _, _, ⟨a, cls, dx, e1, e2, e3, e4⟩ => ⟨a, cls, dx, e1, e2, e3, match e4 with
    | .inl z => .inl z
    | .inr ⟨dd, vs, k1, k2, k3, k4⟩ => .inr ⟨dd, vs, k1, k2, k3, reps.toPin k4⟩⟩
theorem reps.toPin : ∀ {ts : List T} {vs : List V}, reps ⟨K, cl⟩ A F ts vs → reps ⟨K, cl.pinned x⟩ A F ts vs
  | [], _, h => h
  | _ :: _, _, ⟨v, ws, e1, e2, e3⟩ => ⟨v, ws, e1, rep.toPin e2, reps.toPin e3⟩
end
mutual
theorem rep.ofPin : ∀ {t : T} {v : V}, rep ⟨K, cl.pinned x⟩ A F t v → rep ⟨K, cl⟩ A F t v
  | .non, _, h => h
  | .bl _, _, h => h
  | .int _, _, h => h
  | .str _, _, h => h
  | .lst _ _, _, ⟨a, vs, e1, e2, e3, e4⟩ => ⟨a, vs, e1, e2, e3, reps.ofPin e4⟩
  | .tup _, _, ⟨a, vs, e1, e2, e4⟩ => ⟨a, vs, e1, e2, reps.ofPin e4⟩
  | .ro _, _, ⟨a, vs, e1, e2, e4⟩ => ⟨a, vs, e1, e2, reps.ofPin e4⟩
  | .ins _ _ _ _, _, ⟨a, dx, vs, e1, e2, e3, e5, e4⟩ => ⟨a, dx, vs, e1, e2, e3, e5, reps.ofPin e4⟩
  | .dct _ _ _, _, ⟨a, vs, e1, e2, e3, e5, e4⟩ => ⟨a, vs, e1, e2, e3, e5, reps.ofPin e4⟩
  | .exn _ _ _, _, ⟨a, cls, dx, e1, e2, e3, e4⟩ => ⟨a, cls, dx, e1, e2, e3, match e4 with
    | .inl z => .inl z
    | .inr ⟨dd, vs, k1, k2, k3, k4⟩ => .inr ⟨dd, vs, k1, k2, k3, reps.ofPin k4⟩⟩
theorem reps.ofPin : ∀ {ts : List T} {vs : List V}, reps ⟨K, cl.pinned x⟩ A F ts vs → reps ⟨K, cl⟩ A F ts vs
  | [], _, h => h
  | _ :: _, _, ⟨v, ws, e1, e2, e3⟩ => ⟨v, ws, e1, rep.ofPin e2, reps.ofPin e3⟩
end
theorem xrep.ofPin {e : Exn} {dx : Option Addr} (h : xrep ⟨K, cl.pinned x⟩ A F e dx) : xrep ⟨K, cl⟩ A F e dx := by
  rcases h with h | ⟨d, vs, h1, h2, h3, h4⟩
  · exact .inl h
  · exact .inr ⟨d, vs, h1, h2, h3, h4.ofPin⟩
theorem xrep.toPin {e : Exn} {dx : Option Addr} (h : xrep ⟨K, cl⟩ A F e dx) : xrep ⟨K, cl.pinned x⟩ A F e dx := by
  rcases h with h | ⟨d, vs, h1, h2, h3, h4⟩
  · exact .inl h
  · exact .inr ⟨d, vs, h1, h2, h3, h4.toPin⟩
/-- a call's promise is the same -/
theorem spT_pin {n : Nat} {f : Nat → List T → Res T} : spT ⟨K, cl.pinned x⟩ n f = spT ⟨K, cl⟩ n f := by
  funext vs H Q E
  apply propext
  constructor
  · rintro ⟨hl, d, A, F, ts, h1, h2, h3, h4, o⟩
    refine ⟨hl, d, A, F, ts, h1, h2, h3, h4.ofPin, ?_⟩
    cases z : f d ts with
    | ok t => rw [z] at o; exact fun v F1 H1 g r => o v F1 H1 g r.toPin
    | er e => rw [z] at o; exact fun dx F1 H1 g r => o dx F1 H1 g r.toPin
    | stuck => rw [z] at o; exact o
  · rintro ⟨hl, d, A, F, ts, h1, h2, h3, h4, o⟩
    refine ⟨hl, d, A, F, ts, h1, h2, h3, h4.toPin, ?_⟩
    cases z : f d ts with
    | ok t => rw [z] at o; exact fun v F1 H1 g r => o v F1 H1 g r.ofPin
    | er e => rw [z] at o; exact fun dx F1 H1 g r => o dx F1 H1 g r.ofPin
    | stuck => rw [z] at o; exact o
end
theorem Dok.pin {cl : Cl} {x : Option (Nat × Addr)} {P : Program} {w : World} {K : PySem.W.Frag} {mg : Str → Option Value} {base : Heap} {y : Str} {k n : Nat} {f : Nat → List T → Res T} (D : Dok cl P w K mg base y k n f) : Dok (cl.pinned x) P w K mg base y k n f := by
  obtain ⟨fa, fd, ps, h1, h2, h3, h4⟩ := D
  exact ⟨fa, fd, ps, by rw [spT_pin]; exact h1, h2, h3, h4⟩
end Py

set_option Elab.async false
set_option linter.all false
set_option maxRecDepth 100000
set_option maxHeartbeats 4000000
namespace Py
open PySem L2 PySem.Spec PyProof.Rows Evl

/-! ### __init__ of a plain class, making an instance -/
abbrev Fld := List Str × List T
def finI (c : Nat) : RS → Res Fld
  | .nx env => (match env[0]? with
    | some (some (Sl.oi c' ns ts)) => if c' = c then .ok (ns, ts) else .stuck
    | _ => .stuck)
  | .er e _ => .er e
  | _ => .stuck
def entI (n c : Nat) (ts : List T) : Fv := some (.oi c [] []) :: ent (n - 1) ts
def runI (n c : Nat) (s : Sx) (ts : List T) : Res Fld := finI c (s (entI n c ts))
def OutI (G : Ge) (A : Al) (c : Nat) (a : Addr) (F H : Hp) (Q : VK) (E : XK) : Res Fld → Prop
  | .ok r => ∀ F1 H1 vs dx, Grow F (del H a) F1 H1 → F1 a = none → H1 a = some (.ins (G.cl c) dx (r.1.zip vs)) → vs.length = r.1.length → reps G A F1 r.2 vs → Q .non H1
  | .er e => ∀ dx F1 H1, Grow F (del H a) F1 H1 → xrep G A F1 e dx → E (.ref (G.cl e.c)) dx H1
  | .stuck => False
def spI (G : Ge) (c n : Nat) (f : Nat → List T → Res Fld) : Sp := fun vs H Q E => ∃ a dx ws, vs = .ref a :: ws ∧ ws.length = n ∧ H a = some (.ins (G.cl c) dx []) ∧ ∃ d A F ts, AOk A F ∧ (∀ g b, A g = some b → g.1 < d) ∧ Ex F H ∧ F a = none ∧ reps G A F ts ws ∧ OutI G A c a F H Q E (f d ts)
section
variable {K : PySem.W.Frag} {cl : Cl} {d c : Nat} {A0 : Al} {F0 H : Hp} {N : List Str} {ts : List T} {ws : List V} {a dx : Addr}
theorem ex_del : Ex (del H a) H := fun b o h => by
  by_cases q : b = a
  · rw [q, del_same] at h; cases h
  · rw [del_ne q] at h; exact h
theorem rel_startI (ok : AOk A0 F0) (dep : ∀ g b, A0 g = some b → g.1 < d) (e : Ex F0 H) (ha : H a = some (.ins (cl.f c) dx [])) (hf : F0 a = none) (r : reps ⟨K, cl⟩ A0 F0 ts ws) (hl : ts.length + 1 ≤ N.length) (hp : cl.pin = none) :
    Rel ⟨K, cl.pinned (some (d, a))⟩ d A0 F0 (del H a) (fun g => if g = (d, 0) then some a else A0 g) (entI N.length c ts) (L2.start N (.ref a :: ws)) F0 H := by
  have R0 := rel_start (G := ⟨K, cl⟩) (N := N.tail) ok dep e r (by rw [List.length_tail]; omega) hp
  have en : entI N.length c ts = some (.oi c [] []) :: ent N.tail.length ts := by unfold entI; rw [List.length_tail]
  have es : L2.start N (.ref a :: ws) = some (.ref a) :: L2.start N.tail ws := by
    unfold L2.start
    rw [List.map_cons, List.length_cons, List.length_tail, List.cons_append]
    congr 2
    rw [Nat.sub_sub, Nat.add_comm]
  have na : ∀ g, A0 g ≠ some a := fun g z => ok.al g a z hf
  rw [en, es]
  refine ⟨ok, dep, by rw [List.length_cons, List.length_cons, R0.len], fun g z => ?_, fun g b z => ?_, fun g g' b z y => ?_, fun j b z => ?_, Ex.refl _, e, ex_del, fun b h _ => h, fun j u y => ?_, fun j u y => ?_, fun j c' ns u y => ?_, fun j kk u y => ?_, fun b z => ?_⟩
  · rw [if_neg (fun y => by rw [y] at z; exact absurd z (Nat.lt_irrefl _))]
  · by_cases q : g = (d, 0)
    · rw [q]; exact Nat.le_refl _
    · rw [if_neg q] at z; exact Nat.le_of_lt (dep g b z)
  · by_cases q : g = (d, 0)
    · by_cases q' : g' = (d, 0)
      · rw [q, q']
      · rw [if_pos q] at z; rw [if_neg q'] at y
        cases z
        exact absurd y (na g')
    · by_cases q' : g' = (d, 0)
      · rw [if_neg q] at z; rw [if_pos q'] at y
        cases y
        exact absurd z (na g)
      · rw [if_neg q] at z; rw [if_neg q'] at y
        exact ok.inj g g' b z y
  · by_cases q : (d, j) = (d, 0)
    · rw [if_pos q] at z
      cases z
      exact ⟨hf, del_same, by rw [ha]; trivial⟩
    · rw [if_neg q] at z
      exact absurd (dep _ _ z) (Nat.lt_irrefl _)
  · cases j with
    | zero => cases y
    | succ j =>
      obtain ⟨v, k1, k2⟩ := R0.fz j u y
      exact ⟨v, k1, k2.toPin⟩
  · cases j with
    | zero => cases y
    | succ j =>
      obtain ⟨p, vs, k1, k2, k3⟩ := R0.ol j u y
      exact absurd (dep _ _ k2) (Nat.lt_irrefl _)
  · cases j with
    | zero =>
      cases y
      exact ⟨a, dx, [], rfl, if_pos rfl, ha, rfl, rfl⟩
    | succ j =>
      obtain ⟨p, dx', vs, k1, k2, k3⟩ := R0.oi j c' ns u y
      exact absurd (dep _ _ k2) (Nat.lt_irrefl _)
  · cases j with
    | zero => cases y
    | succ j =>
      obtain ⟨p, vs, k1, k2, k3⟩ := R0.od j kk u y
      exact absurd (dep _ _ k2) (Nat.lt_irrefl _)
  · have z' : some (d, a) = some (d, b) := z
    cases z'
    exact if_pos rfl
theorem bodyI_ok {Q : VK} {E : XK} {t : TS} {s : Sx} (h : SS ⟨K, cl.pinned (some (d, a))⟩ d (fun cls dx _ H => E cls dx H) t s) (ok : AOk A0 F0) (dep : ∀ g b, A0 g = some b → g.1 < d) (e : Ex F0 H) (ha : H a = some (.ins (cl.f c) dx [])) (hf : F0 a = none) (r : reps ⟨K, cl⟩ A0 F0 ts ws) (hl : ts.length + 1 ≤ N.length) (hp : cl.pin = none)
    (o : OutI ⟨K, cl⟩ A0 c a F0 H Q E (runI N.length c s ts)) : t { nx := fun _ H' => Q .non H', rt := Q } (L2.start N (.ref a :: ws)) H := by
  refine h A0 F0 (del H a) _ _ _ F0 H _ (rel_startI ok dep e ha hf r hl hp) ?_
  unfold runI at o
  cases z : s (entI N.length c ts) with
  | nx env =>
    rw [z] at o
    intro A σ F H1 R
    have o' : OutI ⟨K, cl⟩ A0 c a F0 H Q E (match env[0]? with
      | some (some (Sl.oi c' ns ts)) => if c' = c then .ok (ns, ts) else .stuck
      | _ => .stuck) := o
    cases q : env[0]? with
    | none => rw [q] at o'; exact o'.elim
    | some s0 =>
      cases s0 with
      | none => rw [q] at o'; exact o'.elim
      | some s0 =>
        cases s0 with
        | fz t => rw [q] at o'; exact o'.elim
        | ol t => rw [q] at o'; exact o'.elim
        | od t t2 => rw [q] at o'; exact o'.elim
        | oi c' ns us =>
          rw [q] at o'
          by_cases hc : c' = c
          · subst hc
            have o2 : OutI ⟨K, cl⟩ A0 c' a F0 H Q E (if c' = c' then .ok (ns, us) else .stuck) := o'
            rw [if_pos rfl] at o2
            obtain ⟨p, dx1, vs, k1, k2, k3, k4, k5⟩ := R.oi 0 c' ns us q
            have k6 := R.pin a rfl
            rw [k2] at k6
            cases k6
            exact o2 F H1 vs dx1 R.growF (R.own 0 _ k2).1 k3 k4 k5.ofPin
          · have o2 : OutI ⟨K, cl⟩ A0 c a F0 H Q E (if c' = c then .ok (ns, us) else .stuck) := o'
            rw [if_neg hc] at o2
            exact o2.elim
  | rt t => rw [z] at o; exact o.elim
  | er e env => rw [z] at o; exact fun A σ F H dx R x => o dx F H R.growF x.ofPin
  | br env => rw [z] at o; exact o.elim
  | ct env => rw [z] at o; exact o.elim
  | stuck => rw [z] at o; exact o.elim
end
end Py

set_option Elab.async false
set_option linter.all false
set_option maxRecDepth 100000
set_option maxHeartbeats 4000000
namespace Py
open PySem L2 PySem.Spec PyProof.Rows Evl
/-- C(e, ..), the instance frozen at once -/
def P.make (c : Nat) (f : List T → Res Fld) (a : P.Ax) : P.Ex1 := fun env => (a env).bind fun ts => (f ts).bind fun r => .ok (.ins none c r.1 r.2)
section
variable {G : Ge} {d c n : Nat} {W : WX} {tl : TA} {a : P.Ax} {f : Nat → List T → Res Fld}
theorem se_make (hn : ∀ env xs, a env = .ok xs → xs.length = n) (hl : SA G d W tl a) : SE G d W (tMkS (G.cl c) (spI G c n f) (WE W) tl) (P.make c (f (d + 1)) a) := fun A env σ F H Q R e o => by
  have o' : Out G A F H Q (WE W σ) ((a env).bind fun ts => (f (d + 1) ts).bind fun r => .ok (.ins none c r.1 r.2)) := o
  have hn' := hn env
  refine hl A env σ F H _ R e ?_
  cases q : a env with
  | er e => rw [q] at o'; exact o'
  | stuck => rw [q] at o'; exact o'
  | ok xs =>
    rw [q] at o'
    intro vs F1 H1 g1 rs p dx hp hd hne
    have hF1 : F1 p = none := none_of_ex g1.sub hp
    have sub1 : Ex F1 (upd (upd H1 dx (.own p)) p (.ins (G.cl c) dx [])) := fun b u y => by
      have h1 := g1.sub b u y
      have n1 : b ≠ p := fun z => by rw [z, hp] at h1; cases h1
      have n2 : b ≠ dx := fun z => by rw [z, hd] at h1; cases h1
      rw [upd_ne n1, upd_ne n2]
      exact h1
    have keep : ∀ {H2 : Hp}, Ex (del (upd (upd H1 dx (.own p)) p (.ins (G.cl c) dx [])) p) H2 → Ex H1 H2 := fun {H2} k b u y => by
      have n1 : b ≠ p := fun z => by rw [z, hp] at y; cases y
      have n2 : b ≠ dx := fun z => by rw [z, hd] at y; cases y
      exact k b u (by rw [del_ne n1, upd_ne n1, upd_ne n2]; exact y)
    have sep : ∀ {F2 H2 : Hp}, Grow F1 (del (upd (upd H1 dx (.own p)) p (.ins (G.cl c) dx [])) p) F2 H2 → ∀ b, F1 b = none → Mtb (H1 b) → F2 b = none := fun {F2 H2} k b y z => by
      have n1 : b ≠ p := fun w => z.ne (by rw [w]; exact hp)
      have n2 : b ≠ dx := fun w => z.ne (by rw [w]; exact hd)
      exact k.sep b y (by rw [del_ne n1, upd_ne n1, upd_ne n2]; exact z)
    have og := Outg.step g1 o'
    refine ⟨p, dx, vs, rfl, by rw [rs.length]; exact hn' xs q, upd_same, d + 1, A, F1, xs, R.ok.mono g1.ex, fun g b z => Nat.lt_succ_of_le (R.dep g b z), sub1, hF1, rs, ?_⟩
    rw [Res.bind_ok] at og
    cases z : f (d + 1) xs with
    | stuck => rw [z] at og; exact og
    | er e2 => rw [z] at og; exact fun dx2 F2 H2 g2 x => og dx2 F2 H2 ⟨g2.ex, g2.sub, keep g2.keep, sep g2⟩ x
    | ok r =>
      rw [z, Res.bind_ok] at og
      intro F2 H2 ws dx2 g2 hF2 hH2 hl2 rs2
      refine ⟨rfl, og (.ref p) (upd F2 p (.ins (G.cl c) dx2 (r.1.zip ws))) H2 ⟨g2.ex.trans (Ex.new hF2), fun b u y => ?_, keep g2.keep, fun b y w => ?_⟩ ⟨p, dx2, ws, rfl, upd_same, hl2, (R.ok.mono g1.ex).new hF1, rs2.mono (Ex.new hF2)⟩⟩
      · by_cases k : b = p
        · rw [k, upd_same] at y; rw [k, hH2]; exact y
        · rw [upd_ne k] at y; exact g2.sub b u y
      · rw [upd_ne (fun k => w.ne (by rw [k]; exact hp))]
        exact sep g2 b y w
end
end Py

set_option Elab.async false
set_option linter.all false
set_option maxRecDepth 100000
set_option maxHeartbeats 4000000
namespace Py
open PySem L2 PySem.Spec PyProof.Rows Evl He

/-! ### C(e, ..), own classes as their makers use them -/
structure Iok (cl : Cl) (P : Program) (w : World) (K : PySem.W.Frag) (mg : Str → Option Value) (base : Heap) (x : Str) (c k n : Nat) (f : Nat → List T → Res Fld) : Prop where
  ex : ∃ fI fd ps, Mk K (cl.f c) fI ∧ FnOk P w K mg base (L2.CX P w) k fI fd ps (spI ⟨K, cl⟩ c n f) ∧ Binds K fd ps [] ∧ mg x = some (.ref (cl.f c))
section
variable {cl : Cl} {X : Cx} {d c k n : Nat} {W : WX} {e : Expr} {es : List Expr} {a : P.Ax} {x : Str} {f : Nat → List T → Res Fld} {p1 pos : Pos}
theorem de_make (D : Iok cl X.prog X.w X.K X.mg X.base x c k n f) (hr : Room (k + 1) X.A) (ha : DA cl X d W (e :: es) a) (hn : ∀ env xs, a env = .ok xs → xs.length = n) (tk : Takes X W := by first | exact tk_of | exact takes0) (hg : Gl X x := by rfl) (hdb : (x == ("__debug__" : Str)) = false := by decide)
    (he : starEach (e :: es) X.env = (false, eval e X.env) :: starEach es X.env := by rfl) (hpl : (backTo pos (starEach es X.env)).any (·.1) = false := by rfl) : DE cl X d W (.Call (.Name x p1) (e :: es) [] pos) (P.make c (f (d + 1)) a) := by
  obtain ⟨fI, fd, ps, M, F, hb, hm⟩ := D
  obtain ⟨t, c1, c2⟩ := ha
  exact ⟨_, pe_mkS M F hr hg hm hb (fun σ => passAt tk σ) c1 hdb he hpl, se_make hn c2⟩
end
section
variable {cl : Cl} {P : Program} {w : World} {K : PySem.W.Frag} {mg : Str → Option Value} {base : Heap} {x qual : Str} {params : Arguments} {body : List Stmt} {scope : Scope} {fI : Addr} {fd : FuncData} {N ps : List Str} {k n c : Nat} {fT : Nat → List T → Res Fld} {sT : Nat → Sx}
theorem init_ok (F : FunD K "__init__" qual params body scope [] [] fI fd) (S : FnScope N ps scope) (hn : n + 1 = ps.length) (hle : ps.length ≤ N.length) (p0 : cl.pin = none) (hf : ∀ d ts, fT d ts = runI N.length c (sT d) ts)
    (h : ∀ (d : Nat) (a : Addr) (cdv : Value) (A : Around) (outer : List Env) (s : Shared) (H : Hp) (E : XK), Room k (A.deeper (envOfC qual scope s.heap.objs.size fI cdv)) → DB (cl.pinned (some (d, a))) (XOf P w K mg base N qual scope fI cdv A outer s H E) d (WOf E) body (sT d)) :
    FnOk P w K mg base (L2.CX P w) (k + 1) fI fd ps (spI ⟨K, cl⟩ c n fT) := by
  refine F.ok S (fun vs H Q E h => ?_) (fun cdv A outer s H vs Q E hr hsp => ?_)
  · obtain ⟨a, dx, ws, rfl, hl, _⟩ := h
    rw [List.length_cons, hl, hn]
  · obtain ⟨a, dx, ws, rfl, hl, ha, d, A0, F0, ts, ok, dep, e, hF, r, o⟩ := hsp
    obtain ⟨t, a1, a2⟩ := h d a cdv A outer s H E hr
    refine ⟨t, a1, bodyI_ok (N := N) a2 ok dep e ha hF r (by rw [← r.length, hl, hn]; exact hle) p0 ?_⟩
    rw [← hf]
    exact o
theorem iok_of (M : Mk K (cl.f c) fI) (hm : mg x = some (.ref (cl.f c))) (F : FunD K "__init__" qual params body scope [] [] fI fd) (S : FnScope N ps scope) (hn : n + 1 = ps.length) (hle : ps.length ≤ N.length) (p0 : cl.pin = none) (hf : ∀ d ts, fT d ts = runI N.length c (sT d) ts)
    (hb : ∀ (kV doc pm : Value) (an : Option Addr) (cdv ct : Value) (us : List Value), us.length = ps.length → bindArgs (PySem.W.fnOf "__init__" qual params body scope .none kV doc pm an cdv ct) ⟨us, []⟩ = pure (ps.zip us))
    (h : ∀ (d : Nat) (a : Addr) (cdv : Value) (A : Around) (outer : List Env) (s : Shared) (H : Hp) (E : XK), Room k (A.deeper (envOfC qual scope s.heap.objs.size fI cdv)) → DB (cl.pinned (some (d, a))) (XOf P w K mg base N qual scope fI cdv A outer s H E) d (WOf E) body (sT d)) :
    Iok cl P w K mg base x c (k + 1) n fT := ⟨fI, fd, ps, M, init_ok F S hn hle p0 hf h, F.bindsN hb, hm⟩
end
/-- .. under a pin -/
theorem spI_pin {K : PySem.W.Frag} {cl : Cl} {x : Option (Nat × Addr)} {c n : Nat} {f : Nat → List T → Res Fld} : spI ⟨K, cl.pinned x⟩ c n f = spI ⟨K, cl⟩ c n f := by
  funext vs H Q E
  apply propext
  constructor
  · rintro ⟨a, dx, ws, h1, h2, h3, d, A, F, ts, k1, k2, k3, k4, k5, o⟩
    refine ⟨a, dx, ws, h1, h2, h3, d, A, F, ts, k1, k2, k3, k4, k5.ofPin, ?_⟩
    cases z : f d ts with
    | ok t => rw [z] at o; exact fun F1 H1 vs dx g e1 e2 e3 r => o F1 H1 vs dx g e1 e2 e3 r.toPin
    | er e => rw [z] at o; exact fun dx F1 H1 g r => o dx F1 H1 g r.toPin
    | stuck => rw [z] at o; exact o
  · rintro ⟨a, dx, ws, h1, h2, h3, d, A, F, ts, k1, k2, k3, k4, k5, o⟩
    refine ⟨a, dx, ws, h1, h2, h3, d, A, F, ts, k1, k2, k3, k4, k5.toPin, ?_⟩
    cases z : f d ts with
    | ok t => rw [z] at o; exact fun F1 H1 vs dx g e1 e2 e3 r => o F1 H1 vs dx g e1 e2 e3 r.ofPin
    | er e => rw [z] at o; exact fun dx F1 H1 g r => o dx F1 H1 g r.ofPin
    | stuck => rw [z] at o; exact o
theorem Iok.pin {cl : Cl} {x : Option (Nat × Addr)} {P : Program} {w : World} {K : PySem.W.Frag} {mg : Str → Option Value} {base : Heap} {y : Str} {c k n : Nat} {f : Nat → List T → Res Fld} (D : Iok cl P w K mg base y c k n f) : Iok (cl.pinned x) P w K mg base y c k n f := by
  obtain ⟨fa, fd, ps, h1, h2, h3, h4⟩ := D
  exact ⟨fa, fd, ps, h1, by rw [spI_pin]; exact h2, h3, h4⟩
theorem Xok.pin {cl : Cl} {x : Option (Nat × Addr)} {P : Program} {w : World} {K : PySem.W.Frag} {mg : Str → Option Value} {base : Heap} {y : Str} {c : Nat} {ns : List Str} (D : Xok cl P w K mg base y c ns) : Xok (cl.pinned x) P w K mg base y c ns := by
  obtain ⟨fI, fd, ps, k, h⟩ := D
  exact ⟨fI, fd, ps, k, h⟩
theorem X0ok.pin {cl : Cl} {x : Option (Nat × Addr)} {K : PySem.W.Frag} {mg : Str → Option Value} {y : Str} {c : Nat} (D : X0ok cl K mg y c) : X0ok (cl.pinned x) K mg y c := ⟨D.ex, D.kp, D.sub, D.ty, D.mg⟩
end Py

set_option Elab.async false
set_option linter.all false
set_option maxRecDepth 100000
set_option maxHeartbeats 4000000
namespace Py
open PySem L2 PySem.Spec PyProof.Rows Evl

/-! ### over the whole frame: what holds nothing of the frame's own may stay -/
mutual
def T.fr : T → Bool
  | .non => true
  | .bl _ => true
  | .int _ => true
  | .str _ => true
  | .lst g ts => g.isNone && T.frs ts
  | .tup ts => T.frs ts
  | .ins g _ _ ts => g.isNone && T.frs ts
  | _ => false
def T.frs : List T → Bool
  | [] => true
  | t :: ts => t.fr && T.frs ts
end
section
variable {G : Ge} {d : Nat} {A0 A : Al} {F0 H0 F H F1 H1 : Hp} {env : Fv} {σ : L2.St}
theorem Rel.ground (R : Rel G d A0 F0 H0 A env σ F H) {a : Addr} {o : HO} (h : F1 a = some o) (hn : ∀ g, A g ≠ some a) : minus d A F1 a = some o ∧ ∀ g, A0 g ≠ some a := by
  refine ⟨by rw [minus_not fun i => hn (d, i)]; exact h, fun g z => ?_⟩
  refine hn g ?_
  rw [R.agree g (R.dep0 g a z)]
  exact z
theorem Rel.noTag (R : Rel G d A0 F0 H0 A env σ F H) {a : Addr} (h : tagOk A none a) : tagOk A0 none a := fun g z => h g (by rw [R.agree g (R.dep0 g a z)]; exact z)
theorem Rel.tupOut (R : Rel G d A0 F0 H0 A env σ F H) (g : Grow (plus d A F H) H F1 H1) {a : Addr} {vs : List V} (h : F1 a = some (.tup vs)) : minus d A F1 a = some (.tup vs) := by
  have key : ∀ o, F1 a = some o → (¬ OwnO (some o)) → minus d A F1 a = some o := fun o e no => by
    rw [minus_not fun i z => ?_]
    · exact e
    · obtain ⟨y1, y2, y3⟩ := R.own i a z
      cases y4 : H a with
      | none => exact y3.ne y4
      | some o4 =>
        have y5 : plus d A F H a = some o4 := by rw [plus_own z]; exact y4
        have y6 := g.ex _ _ y5
        rw [e] at y6
        cases y6
        rw [y4] at y3
        exact no y3
  exact key _ h fun z => z
mutual
theorem rep.out (R : Rel G d A0 F0 H0 A env σ F H) (g : Grow (plus d A F H) H F1 H1) : ∀ {t : T} {v : V}, t.fr = true → rep G A F1 t v → rep G A0 (minus d A F1) t v
  | .non, _, _, h => h
  | .bl _, _, _, h => h
  | .int _, _, _, h => h
  | .str _, _, _, h => h
  | .lst gg ts, _, f, ⟨a, vs, e1, e2, e3, e4⟩ => by
    obtain ⟨f1, f2⟩ := band (show (gg.isNone && T.frs ts) = true from f)
    cases gg with
    | some _ => cases f1
    | none =>
      obtain ⟨k1, k2⟩ := R.ground e2 e3
      exact ⟨a, vs, e1, k1, k2, reps.out R g f2 e4⟩
  | .tup _, _, f, ⟨a, vs, e1, e2, e4⟩ => ⟨a, vs, e1, R.tupOut g e2, reps.out R g f e4⟩
  | .ro _, _, f, _ => by cases f
  | .ins gg c ns ts, _, f, ⟨a, dx, vs, e1, e2, e3, e5, e4⟩ => by
    obtain ⟨f1, f2⟩ := band (show (gg.isNone && T.frs ts) = true from f)
    cases gg with
    | some _ => cases f1
    | none =>
      obtain ⟨k1, k2⟩ := R.ground e2 e5
      exact ⟨a, dx, vs, e1, k1, e3, k2, reps.out R g f2 e4⟩
  | .exn _ _ _, _, f, _ => by cases f
theorem reps.out (R : Rel G d A0 F0 H0 A env σ F H) (g : Grow (plus d A F H) H F1 H1) : ∀ {ts : List T} {vs : List V}, T.frs ts = true → reps G A F1 ts vs → reps G A0 (minus d A F1) ts vs
  | [], _, _, h => h
  | t :: ts, _, f, ⟨v, ws, e1, e2, e3⟩ => by
    obtain ⟨f1, f2⟩ := band (show (t.fr && T.frs ts) = true from f)
    exact ⟨v, ws, e1, rep.out R g f1 e2, reps.out R g f2 e3⟩
end
end
/-- what is raised holds nothing of the frame's own -/
def Res.thenY {α : Type} (m : Res α) (env : Fv) (k : α → RS) : RS := match m with
  | .ok a => k a
  | .er e => if T.frs e.ts = true then .er e env else .stuck
  | .stuck => .stuck
@[simp] theorem Res.thenY_ok {α : Type} (a : α) (env : Fv) (k : α → RS) : Res.thenY (.ok a) env k = k a := nrfl rfl
@[simp] theorem Res.thenY_er {α : Type} (e : Exn) (env : Fv) (k : α → RS) : Res.thenY (.er e) env k = if T.frs e.ts = true then .er e env else .stuck := nrfl rfl
@[simp] theorem Res.thenY_stuck {α : Type} (env : Fv) (k : α → RS) : Res.thenY (.stuck) env k = .stuck := nrfl rfl
namespace S
def asgY (i : Nat) (p : P.Ex1) : Sx := fun env => (p env).thenY env fun t => if t.fr = true ∧ i < env.length then .nx (env.set i (some (.fz t))) else .stuck
def retY (p : P.Ex1) : Sx := fun env => (p env).thenY env fun t => if t.fr = true then .rt t else .stuck
def exprY (p : P.Ex1) : Sx := fun env => (p env).thenY env fun _ => .nx env
def fsetY (c i : Nat) (f : Str) (p : P.Ex1) : Sx := fun env => (p env).thenY env fun t => match env[i]? with
  | some (some (.oi c' ns ts)) => if t.fr = true ∧ c' = c ∧ ns.contains f = false ∧ ns.length < 1000 then .nx (env.set i (some (.oi c (ns ++ [f]) (ts ++ [t])))) else .stuck
  | _ => .stuck
def appY (i : Nat) (p : P.Ex1) : Sx := fun env => match env[i]? with
  | some (some (.ol ts)) => (p env).thenY env fun t => if t.fr = true ∧ ts.length < sizeLine then .nx (env.set i (some (.ol (ts ++ [t])))) else .stuck
  | _ => .stuck
def setY (i : Nat) (k p : P.Ex1) : Sx := fun env => match env[i]? with
  | some (some (.ol ts)) => (p env).thenY env fun t => (k env).thenY env fun j => (match j with
    | .int z => (match ixN ts.length z with
      | some m => if t.fr = true then .nx (env.set i (some (.ol (ts.set m t)))) else .stuck
      | none => .stuck)
    | _ => .stuck)
  | _ => .stuck
end S
section
variable {G : Ge} {d : Nat} {W : WX} {A0 A : Al} {F0 H0 F H : Hp} {env : Fv} {σ : L2.St} {D : Ends}
variable {te tk : TE} {p q : P.Ex1} {i c : Nat} {f : Str}
theorem Rel.outY {α β : Type} {Rp : Hp → α → β → Prop} (R : Rel G d A0 F0 H0 A env σ F H) {m : Res α} {k : α → RS} {Q : β → Hp → Prop} (o : OutS G d A0 F0 H0 W D (m.thenY env k))
    (h : ∀ r v F1 H1, Grow (plus d A F H) H F1 H1 → Rel G d A0 F0 H0 A env σ (minus d A F1) H1 → Rp F1 r v → OutS G d A0 F0 H0 W D (k r) → Q v H1) : Outg G A (plus d A F H) H Rp Q (WE W σ) m := by
  cases m with
  | ok r => exact fun v F1 H1 g r => h _ v _ H1 g (R.grow (R.low g)) r o
  | er e =>
    have o' : OutS G d A0 F0 H0 W D (if T.frs e.ts = true then .er e env else .stuck) := o
    obtain ⟨fe, o'⟩ := OutS.of_if o'
    refine fun dx F1 H1 g x => o' A σ _ H1 dx (R.grow (R.low g)) ?_
    rcases x with x | ⟨dd, vs, h1, h2, h3, h4⟩
    · exact .inl x
    · refine .inr ⟨dd, vs, h1, ?_, h3, reps.out R g fe h4⟩
      rw [minus_not fun i y => ?_]
      · exact h2
      · obtain ⟨y1, y2, y3⟩ := R.own i dd y
        cases y4 : H dd with
        | none => exact y3.ne y4
        | some o4 =>
          have y5 : plus d A F H dd = some o4 := by rw [plus_own y]; exact y4
          have y6 := g.ex _ _ y5
          rw [h2] at y6
          cases y6
          rw [y4] at y3
          exact y3
  | stuck => exact o
theorem Rel.runY (R : Rel G d A0 F0 H0 A env σ F H) (he : SE G d W te p) {k : T → RS} {Q : VK} (o : OutS G d A0 F0 H0 W D ((p env).thenY env k))
    (h : ∀ r v F1 H1, Rel G d A0 F0 H0 A env σ F1 H1 → (r.fr = true → rep G A0 F1 r v) → OutS G d A0 F0 H0 W D (k r) → Q v H1) : te σ H Q :=
  he A env σ _ H Q R.re R.subP (R.outY o fun r v F1 H1 g R1 r1 o1 => h r v _ H1 R1 (fun f => rep.out R g f r1) o1)
theorem ss_asgY (he : SE G d W te p) (hp : i = 0 → G.c.pin = none) : SS G d W (tAsg te (gName i)) (S.asgY i p) := fun A0 F0 H0 A env σ F H D R o =>
  R.runY he o fun r v F1 H1 R1 r1 o1 => by
    obtain ⟨⟨hf, hi⟩, o2⟩ := OutS.of_if o1
    obtain ⟨A', R2⟩ := R1.set (r1 hf) hi hp
    exact o2 A' _ F1 H1 R2
theorem ss_retY (he : SE G d W te p) : SS G d W (tRet te) (S.retY p) := fun A0 F0 H0 A env σ F H D R o =>
  R.runY he o fun r v F1 H1 R1 r1 o1 => by
    obtain ⟨hf, o2⟩ := OutS.of_if o1
    exact o2 v F1 H1 R1.growF (r1 hf)
theorem ss_exprY (he : SE G d W te p) : SS G d W (tDrop te) (S.exprY p) := fun A0 F0 H0 A env σ F H D R o =>
  R.runY he o fun r v F1 H1 R1 r1 o1 => o1 A σ F1 H1 R1
theorem ss_fsetY (hC : Cls G.K (G.cl c)) (hn : NoAttr G.K (G.cl c) f) (he : SE G d W te p) : SS G d W (sFld G.K (tVar i) te f) (S.fsetY c i f p) := fun A0 F0 H0 A env σ F H D R o => by
  refine R.runY he o fun r v F1 H1 R1 r1 o1 => ?_
  cases q : env[i]? with
  | none => rw [q] at o1; exact o1.elim
  | some s =>
    cases s with
    | none => rw [q] at o1; exact o1.elim
    | some s =>
      cases s with
      | fz t => rw [q] at o1; exact o1.elim
      | ol t => rw [q] at o1; exact o1.elim
      | od t t2 => rw [q] at o1; exact o1.elim
      | oi c' ns ts =>
        rw [q] at o1
        obtain ⟨⟨hf, c0, c1, c2⟩, o2⟩ := OutS.of_if o1
        subst c0
        obtain ⟨pa, dx, vs, k1, k2, k3, k4, k5⟩ := R1.oi i c' ns ts q
        refine ⟨_, k1, pa, G.cl c', dx, _, rfl, k3, hC, hn, ?_, ?_⟩
        · rw [List.length_zip, k4, Nat.min_self]; exact c2
        · rw [putF_new k4 c1]
          exact o2 A σ F1 _ (R1.wrI q k1 k2 (by rw [List.length_append, List.length_append, k4]; rfl) (k5.append (reps.one (r1 hf))))
theorem ss_appY (he : SE G d W te p) : SS G d W (tDrop (tBM G.K "list" rAppend (tVar i) (tCons te tNil))) (S.appY i p) := fun A0 F0 H0 A env σ F H D R o => by
  unfold S.appY at o
  split at o
  · rename_i ts e
    obtain ⟨pa, vs, h1, h2, h3, h4⟩ := R.ol i ts e
    refine ⟨_, h1, Or.inl ⟨rfl, vs, SqL.of h3⟩, R.runY he o fun r v F1 H1 R1 r1 o1 => ?_⟩
    obtain ⟨⟨hf, hz⟩, o2⟩ := OutS.of_if o1
    obtain ⟨pb, vs1, k1, k2, k3, k4⟩ := R1.ol i ts e
    rw [h1] at k1
    cases k1
    refine ⟨_, vs1, v, rfl, rfl, k3, by rw [k4.length]; exact hz, ?_⟩
    exact o2 _ _ _ _ (R1.wr e h1 k2 (k4.append (reps.one (r1 hf))))
  · exact o.elim
theorem ss_setY (he : SE G d W te p) (hk : SE G d W tk q) : SS G d W (tAsg te (gSub (tVar i) tk rSetL)) (S.setY i q p) := fun A0 F0 H0 A env σ F H D R o => by
  unfold S.setY at o
  split at o
  · rename_i ts e
    refine R.runY he o fun r v F1 H1 R1 r1 o1 => ?_
    obtain ⟨pb, vs1, k1, k2, k3, k4⟩ := R1.ol i ts e
    refine ⟨_, k1, hk A env σ _ H1 _ R1.re R1.subP (R1.outY o1 fun j w F2 H2 g2 R2 r2 o2 => ?_)⟩
    cases j <;> (try exact o2.elim)
    rename_i z
    have hw : w = .int z := r2
    subst hw
    obtain ⟨pc, vs2, l1, l2, l3, l4⟩ := R2.ol i ts e
    rw [k1] at l1
    cases l1
    have o3 : OutS G d A0 F0 H0 W D (match ixN ts.length z with | some m => if r.fr = true then .nx (env.set i (some (.ol (ts.set m r)))) else .stuck | none => .stuck) := o2
    cases hm : ixN ts.length z with
    | none => rw [hm] at o3; exact o3.elim
    | some m =>
      rw [hm] at o3
      obtain ⟨hf, o4⟩ := OutS.of_if o3
      refine ⟨_, vs2, z, m, rfl, rfl, l3, by rw [l4.length]; exact hm, ?_⟩
      exact o4 _ _ _ _ (R2.wr e k1 l2 (l4.set m ((r1 hf).mono (R1.low g2).ex)))
  · exact o.elim
end
section
variable {cl : Cl} {X : Cx} {d : Nat} {W : WX} {e e2 : Expr} {p q : P.Ex1} {pos p1 : Pos} {i : Nat}
theorem ds_asgY {x : Str} {p' : Pos} (hN : X.N.Nodup) (h : DE cl X d W e p) (hi : X.N[i]? = some x := by rfl) (hx : Loc X.env.scope x := by first | exact Or.inl rfl | exact Or.inr rfl) (hs : swapsWith e (some (.Name x p')) pos.line X.env = pure false := by rfl)
    (hf : X.fn x = true ∨ X.env.scope.names.lookup x = some .local := by first | exact .inl rfl | exact .inr rfl) (hp : i = 0 → cl.pin = none := by first | (intro _; assumption) | (intro h; cases h)) : DS cl X d W (.Assign [.Name x p'] e pos) (S.asgY i p) := by
  obtain ⟨t, a1, a2⟩ := h
  exact ⟨_, ps_set hN hi hx a1 hs hf, ss_asgY a2 hp⟩
theorem ds_retY (h : DE cl X d W e p) : DS cl X d W (.Return (some e) pos) (S.retY p) := by
  obtain ⟨t, a1, a2⟩ := h
  exact ⟨_, ps_ret a1, ss_retY a2⟩
theorem ds_exprY (h : DE cl X d W e p) (hs : swapsWith e none pos.line X.env = pure false := by rfl) : DS cl X d W (.Expr e pos) (S.exprY p) := by
  obtain ⟨t, a1, a2⟩ := h
  exact ⟨_, ps_expr a1 hs, ss_exprY a2⟩
theorem ds_fsetY {c : Nat} {x f : Str} {e : Expr} {pos p' p2 : Pos} (hC : Cls X.K (cl.f c)) (hn : NoAttr X.K (cl.f c) f) (h : DE cl X d W e p) (hN : X.N[i]? = some x := by rfl) (hv : Vis X.env.scope x := by first | exact Or.inl rfl | exact Or.inr (Or.inl rfl) | exact Or.inr (Or.inr rfl)) (hd : (x == ("__debug__" : Str)) = false := by decide) (hcd : (x == ("__classdict__" : Str)) = false := by decide)
    (hs : swapsWith e (some (.Attribute (.Name x p2) f p')) pos.line X.env = pure false := by rfl) : DS cl X d W (.Assign [.Attribute (.Name x p2) f p'] e pos) (S.fsetY c i f p) := by
  obtain ⟨t, a1, a2⟩ := h
  exact ⟨_, ps_fld (pe_var hN hv hd hcd) a1 hs, ss_fsetY hC hn a2⟩
theorem ds_appY {x : Str} {apos p' : Pos} (h : DE cl X d W e p) (hN : X.N[i]? = some x := by rfl) (hv : Vis X.env.scope x := by first | exact Or.inl rfl | exact Or.inr (Or.inl rfl) | exact Or.inr (Or.inr rfl)) (hd : (x == ("__debug__" : Str)) = false := by decide) (hcd : (x == ("__classdict__" : Str)) = false := by decide)
    (hbase : attributeBase (.Name x p') "append" X.env (eval (.Name x p') X.env) = eval (.Name x p') X.env := by rfl)
    (hfew : ((backTo p1 (starEach [e] X.env)).all (fun x => !x.1) && (backToKw p1 (keywordEach [] X.env)).all (fun x => x.1.isSome) && decide ([e].length + ([] : List Keyword).length + (if ([] : List Keyword).isEmpty then 0 else 1) < 30)) = true := by rfl)
    (hline : (apos.endLine == p1.line) = true := by rfl) (hs : starEach [e] X.env = (false, eval e X.env) :: starEach [] X.env := by rfl) (hplain : (backTo p1 (starEach [] X.env)).any (·.1) = false := by rfl)
    (hsw : swapsWith (.Call (.Attribute (.Name x p') "append" apos) [e] [] p1) none pos.line X.env = pure false := by rfl) : DS cl X d W (.Expr (.Call (.Attribute (.Name x p') "append" apos) [e] [] p1) pos) (S.appY i p) := by
  obtain ⟨t, a1, a2⟩ := h
  exact ⟨_, ps_expr (pe_bm PySem.F.plainAttrs_list PySem.F.slot_list_append PySem.F.type_list_append mt_append (pe_var hN hv hd hcd) (pa_cons a1 pa_nil hs) hbase hfew hline hs hplain) hsw, ss_appY a2⟩
theorem ds_setY {x : Str} {p' : Pos} {x1} (h : DE cl X d W e p) (hk : DE cl X d W e2 q) (hN : X.N[i]? = some x := by rfl) (hv : Vis X.env.scope x := by first | exact Or.inl rfl | exact Or.inr (Or.inl rfl) | exact Or.inr (Or.inr rfl)) (hd : (x == ("__debug__" : Str)) = false := by decide) (hcd : (x == ("__classdict__" : Str)) = false := by decide)
    (hs : swapsWithSole [.Subscript (.Name x p') e2 x1] e pos.line X.env = pure false := by rfl) (hw : swappedStores [.Subscript (.Name x p') e2 x1] e X.env = pure none := by rfl)
    (ha : ∀ v, assign (.Subscript (.Name x p') e2 x1) X.env v = (do
      let ov ← holding [v] (eval (.Name x p') X.env)
      let iv ← holding [v, ov] (eval e2 X.env)
      standAt x1
      holding [v, ov, iv] (setItem ov iv v)
      release [v, ov, iv] []) := by intro _; rfl) : DS cl X d W (.Assign [.Subscript (.Name x p') e2 x1] e pos) (S.setY i q p) := by
  obtain ⟨t, a1, a2⟩ := h
  obtain ⟨t2, b1, b2⟩ := hk
  exact ⟨_, ps_asg a1 (pg_sub (pe_var hN hv hd hcd) b1 set_list ha) hs hw, ss_setY a2 b2⟩
/-! ### a field of an instance of one of several classes -/
def FldOk (K : PySem.W.Frag) (cl : Cl) (f : Str) (cs : List Nat) : Prop := ∀ c ∈ cs, Cls K (cl.f c) ∧ NoAttr K (cl.f c) f
theorem FldOk.nil {K : PySem.W.Frag} {cl : Cl} {f : Str} : FldOk K cl f [] := fun _ h => by cases h
theorem FldOk.cons {K : PySem.W.Frag} {cl : Cl} {f : Str} {c : Nat} {cs : List Nat} (h1 : Cls K (cl.f c)) (h2 : NoAttr K (cl.f c) f) (h : FldOk K cl f cs) : FldOk K cl f (c :: cs) := fun c' hc => by
  rcases List.mem_cons.mp hc with z | z
  · rw [z]; exact ⟨h1, h2⟩
  · exact h c' z
def T.fld (cs : List Nat) (f : Str) : T → Option T
  | .ins _ c ns ts => if cs.contains c then (ns.zip ts).lookup f else none
  | _ => none
theorem de_attr {f : Str} {cs : List Nat} (h0 : FldOk X.K cl f cs) (h : DE cl X d W e p) (hb : attributeBase e f X.env (eval e X.env) = eval e X.env := by rfl) : DE cl X d W (.Attribute e f pos) (P.un (T.fld cs f) p) := by
  obtain ⟨te, a1, a2⟩ := h
  refine ⟨_, pe_fld a1 hb, fun A env σ F H Q R e o => a2 A env σ F H _ R e (Outg.bind o fun y w F1 H1 g1 rx o1 => ?_)⟩
  cases y with
  | ins g c' ns ts =>
    have o2 : Out _ A F1 H1 Q (WE W σ) (.of (if cs.contains c' then (ns.zip ts).lookup f else none)) := o1
    cases hc : cs.contains c' with
    | false => rw [hc] at o2; exact o2.elim
    | true =>
      rw [hc, if_pos rfl] at o2
      obtain ⟨C, hno⟩ := h0 c' (List.contains_iff_mem.mp hc)
      cases q : (ns.zip ts).lookup f with
      | none => rw [q] at o2; exact o2.elim
      | some t =>
        rw [q] at o2
        obtain ⟨a, dx, vs, rfl, e1, e2, e3, e4⟩ := rx
        obtain ⟨v, hv, rv⟩ := zip_lookup e4 q
        exact ⟨a, _, dx, _, v, rfl, g1.sub _ _ e1, C, hno, hv, Out.here o2 g1.sub rv⟩
  | _ => exact o1.elim
end
end Py

set_option Elab.async false
set_option linter.all false
set_option maxRecDepth 100000
set_option maxHeartbeats 4000000
namespace Py
open PySem L2 PySem.Spec PyProof.Rows Evl

/-! ### x in a list whose items are data of any depth -/
def T.inL (neg : Bool) (x y : T) : Option T := match T.pd x, T.pd y with
  | some d, some (.list ds) => if SeqAt.shaped d && SeqAt.shaped (.list ds) then some (.bl (if neg then !ds.any (fun z => PyData.eqv z d) else ds.any fun z => PyData.eqv z d)) else none
  | _, _ => none
def T.isInD (neg : Bool) (x y : T) : Option T := (T.isIn neg x y).or (T.inL neg x y)
section
variable {cl : Cl} {X : Cx}
theorem opS_inL {G : Ge} : OpS G (rInD G.K) (T.inL false) := fun A F H Q E x y v w ok e rx ry o => by
  unfold T.inL at o
  split at o
  · rename_i d ds q1 q2
    split at o
    · rename_i c
      exact ⟨d, ds, dp_mono e (dp_of rx q1), dp_mono e (dp_of ry q2), (band c).1, (band c).2, Out.here o e rfl⟩
    · exact o.elim
  · exact o.elim
theorem opS_notInL {G : Ge} : OpS G (rNotInD G.K) (T.inL true) := fun A F H Q E x y v w ok e rx ry o => by
  unfold T.inL at o
  split at o
  · rename_i d ds q1 q2
    split at o
    · rename_i c
      exact ⟨d, ds, dp_mono e (dp_of rx q1), dp_mono e (dp_of ry q2), (band c).1, (band c).2, Out.here o e rfl⟩
    · exact o.elim
  · exact o.elim
theorem Room.u65 {k : Nat} {A : Around} (h : Room k A) : A.units + 65 < cLine := by
  have := h.un
  omega
theorem opD_inD (hu : X.A.units + 65 < cLine) : OpD X cl (compareOp .In) (T.isInD false) := opD_in.or ⟨_, op_inD hu, opS_inL⟩ fun _ _ => rfl
theorem opD_notInD (hu : X.A.units + 65 < cLine) : OpD X cl (compareOp .NotIn) (T.isInD true) := opD_notIn.or ⟨_, op_notInD hu, opS_notInL⟩ fun _ _ => rfl
end
/-! ### a test that may raise something that is not flat -/
namespace S
def iteY (t : P.Bx) (s u : Sx) : Sx := fun env => (t env).thenY env fun b => if b = true then s env else u env
end S
section
variable {G : Ge} {d : Nat} {W : WX} {A0 A : Al} {F0 H0 F H : Hp} {env : Fv} {σ : L2.St} {D : Ends} {tt : TT} {b : P.Bx} {t u : TS} {s s' : Sx}
theorem Rel.runTY (R : Rel G d A0 F0 H0 A env σ F H) (ht : ST G d W tt b) {k : Bool → RS} {Q : Bool → Hp → Prop} (o : OutS G d A0 F0 H0 W D ((b env).thenY env k))
    (h : ∀ r F1 H1, Rel G d A0 F0 H0 A env σ F1 H1 → OutS G d A0 F0 H0 W D (k r) → Q r H1) : tt σ H Q :=
  ht A env σ _ H Q R.re R.subP (R.outY o fun r v F1 H1 g R1 r1 o1 => by
    subst r1
    exact h _ _ H1 R1 o1)
theorem ss_ifY (ht : ST G d W tt b) (h1 : SS G d W t s) (h2 : SS G d W u s') : SS G d W (tIfS tt t u) (S.iteY b s s') := fun A0 F0 H0 A env σ F H D R o =>
  R.runTY ht o fun r F1 H1 R1 o1 => by
    cases r with
    | true =>
      show t D σ H1
      exact h1 A0 F0 H0 A env σ F1 H1 D R1 o1
    | false =>
      show u D σ H1
      exact h2 A0 F0 H0 A env σ F1 H1 D R1 o1
end
theorem ds_ifY {cl : Cl} {X : Cx} {d : Nat} {W : WX} {e : Expr} {sts sts' : List Stmt} {pos : Pos} {b : P.Bx} {s s' : Sx} (ht : DT cl X d W e b) (h1 : DB cl X d W sts s) (h2 : DB cl X d W sts' s') : DS cl X d W (.If e sts sts' pos) (S.iteY b s s') := by
  obtain ⟨t, a1, a2⟩ := ht
  obtain ⟨t1, b1, b2⟩ := h1
  obtain ⟨t2, c1, c2⟩ := h2
  exact ⟨_, ps_if a1 b1 c1, ss_ifY a2 b2 c2⟩
end Py

set_option Elab.async false
set_option linter.all false
set_option maxRecDepth 100000
set_option maxHeartbeats 4000000
namespace Py
open PySem L2 PySem.Spec PyProof.Rows Evl

/-! ### isinstance, own classes among those asked -/
abbrev TyK := Sum String Nat
def tyVal (cl : Cl) : TyK → Value
  | .inl n => .type n
  | .inr c => .ref (cl.f c)
def lookK (tab : List (TyK × Bool)) (n : TyK) : Option Bool := (tab.find? fun p => decide (p.1 = n)).map (·.2)
def T.tyk : T → Option TyK
  | .non => some (.inl "NoneType")
  | .bl _ => some (.inl "bool")
  | .int _ => some (.inl "int")
  | .str _ => some (.inl "str")
  | .lst _ _ => some (.inl "list")
  | .tup _ => some (.inl "tuple")
  | .ins _ c _ _ => some (.inr c)
  | _ => none
def T.isk (tab : TyK → Option Bool) (t : T) : Option T := match t.tyk with
  | some n => (tab n).map .bl
  | none => none
/-- what isinstance asks of a plain class -/
structure InsA (K : PySem.W.Frag) (C : Addr) : Prop where
  cl : Cls K C
  ha : PySem.W.findIn K (.ref C) "__class__" = some (some (.builtin "object.__class__"))
  hn : PySem.W.specialIn K (.builtin "object.__class__") "__get__" = some (some (.builtin "getset_descriptor.__get__"))
  tk : PySem.W.takesIn K (.builtin "object.__class__") = some true
  mr : PySem.W.mroIn K C (.type "object") = some true
def InsAll (K : PySem.W.Frag) (cl : Cl) (tab : TyK → Option Bool) : Prop := ∀ c b, tab (.inr c) = some b → InsA K (cl.f c)
section
variable {cl : Cl} {X : Cx} {G : Ge} {A : Al} {F H : Hp} {d : Nat} {W : WX} {e : Expr} {p : P.Ex1} {pos p1 p2 : Pos} {tab : TyK → Option Bool} {x : Str}
theorem tyk_of {t : T} {v : V} {n : TyK} {b : Bool} (h : rep G A F t v) (e : Ex F H) (q : t.tyk = some n) (hi : InsAll G.K G.c tab) (ht : tab n = some b) : TyX G.K H v (tyVal G.c n) := by
  cases t <;> cases q
  · cases h; exact .base .non
  · cases h; exact .base (.bl _)
  · cases h; exact .base (.int _)
  · cases h; exact .base (.str _)
  · obtain ⟨a, vs, rfl, h2, _⟩ := h
    exact .base (.lst (e _ _ h2))
  · obtain ⟨a, vs, rfl, h2, _⟩ := h
    exact .base (.tup (e _ _ h2))
  · obtain ⟨a, dx, vs, rfl, h2, _⟩ := h
    have i := hi _ _ ht
    exact .base (.ins (e _ _ h2) i.cl i.ha i.hn i.tk i.mr)
theorem de_isk {u : Value} (hm : X.mg "isinstance" = none) (hc : NC X x u) (hi : InsAll X.K cl tab) (htk : ∀ n b, tab n = some b → PySem.W.kitOne X.K (tyVal cl n) u = some b) (h : DE cl X d W e p) (hd : (x == ("__debug__" : Str)) = false := by decide) (hg : Gl X "isinstance" := by rfl) (hg2 : Gl X x := by rfl)
    (he : starEach [e, .Name x p2] X.env = (false, eval e X.env) :: starEach [.Name x p2] X.env := by rfl) (he2 : starEach [.Name x p2] X.env = (false, eval (.Name x p2) X.env) :: starEach [] X.env := by rfl) (hpl : (backTo pos (starEach [.Name x p2] X.env)).any (·.1) = false := by rfl) :
    DE cl X d W (.Call (.Name "isinstance" p1) [e, .Name x p2] [] pos) (P.un (T.isk tab) p) := by
  obtain ⟨te, a1, a2⟩ := h
  obtain ⟨v, hv, hp⟩ := hc.pe (pos := p2) hg2 hd
  refine ⟨_, pe_callB call_isi hg hm (by decide +kernel) (pa_cons a1 (pa_cons hp pa_nil he2) he) (by decide) (by decide) he hpl, fun A env σ F H Q R e o => a2 A env σ F H _ R e (Outg.bind o fun y w F1 H1 g1 rx o1 => ?_)⟩
  unfold T.isk at o1
  cases q : y.tyk with
  | none => rw [q] at o1; exact o1.elim
  | some n =>
    rw [q] at o1
    cases q2 : tab n with
    | none => simp only [q2] at o1; exact o1.elim
    | some b =>
      simp only [q2] at o1
      exact ⟨w, v, tyVal cl n, u, b, rfl, hv, tyk_of rx g1.sub q hi q2, htk n b q2, Out.here o1 g1.sub rfl⟩
theorem de_iskT {cs : List Expr} {us : List Value} {x1 : Nat} (hm : X.mg "isinstance" = none) (hc : NCs X cs us) (hi : InsAll X.K cl tab) (htk : ∀ n b, tab n = some b → PySem.W.kitAny X.K (tyVal cl n) us = some b) (h : DE cl X d W e p) (hlen : cs.length ≤ 1000 := by decide) (hg : Gl X "isinstance" := by rfl)
    (he : starEach [e, .Tuple cs x1 p2] X.env = (false, eval e X.env) :: starEach [.Tuple cs x1 p2] X.env := by rfl) (he2 : starEach [.Tuple cs x1 p2] X.env = (false, eval (.Tuple cs x1 p2) X.env) :: starEach [] X.env := by rfl) (hpl : (backTo pos (starEach [.Tuple cs x1 p2] X.env)).any (·.1) = false := by rfl) :
    DE cl X d W (.Call (.Name "isinstance" p1) [e, .Tuple cs x1 p2] [] pos) (P.un (T.isk tab) p) := by
  obtain ⟨te, a1, a2⟩ := h
  obtain ⟨vs, hv, hl, hp⟩ := hc
  refine ⟨_, pe_callB call_isiT hg hm (by decide +kernel) (pa_cons a1 (pa_cons (pe_tup hp) pa_nil he2) he) (by decide) (by decide) he hpl, fun A env σ F H Q R e o => a2 A env σ F H _ R e (Outg.bind o fun y w F1 H1 g1 rx o1 => ?_)⟩
  unfold T.isk at o1
  cases q : y.tyk with
  | none => rw [q] at o1; exact o1.elim
  | some n =>
    rw [q] at o1
    cases q2 : tab n with
    | none => simp only [q2] at o1; exact o1.elim
    | some b =>
      simp only [q2] at o1
      have hvl : vs.length ≤ sizeLine := by
        have e1 : vs.length = us.length := Paired.length hv
        rw [e1, hl]
        exact Nat.le_trans hlen (by decide)
      refine ⟨hvl, fun tp htp => ⟨w, tp, vs, tyVal cl n, us, b, rfl, upd_same, hv, ?_, htk n b q2, ?_⟩⟩
      · exact tyk_of (H := upd H1 tp (.tup vs)) rx (g1.sub.trans (Ex.new htp)) q hi q2
      · exact o1 _ F1 _ (Grow.junk g1.sub htp) rfl
end
/-! ### x == y by an own method -/
/-- a method of a class, as its callers use it; no errors -/
structure Mok (cl : Cl) (P : Program) (w : World) (K : PySem.W.Frag) (mg : Str → Option Value) (base : Heap) (m : Str) (c k n : Nat) (f : Nat → List T → Res T) : Prop where
  ex : ∃ fa fd ps, Meth K (cl.f c) m fa ∧ FnOk P w K mg base (L2.CX P w) k fa fd ps (spT ⟨K, cl⟩ n f) ∧ Binds K fd ps []
/-- two instances of the class c compared by its method f -/
def T.cmpM (c : Nat) (f : List T → Res T) (x y : T) : Option T := match x, y with
  | .ins _ c1 _ _, .ins _ c2 _ _ => if c1 = c ∧ c2 = c ∧ x.fr = true ∧ y.fr = true then (match f [x, y] with
    | .ok (.bl b) => some (.bl b)
    | _ => none) else none
  | _, _ => none
section
variable {G : Ge} {A : Al} {F : Hp}
mutual
theorem rep.noA : ∀ {t : T} {v : V}, t.fr = true → rep G A F t v → rep G (fun _ => none) F t v
  | .non, _, _, h => h
  | .bl _, _, _, h => h
  | .int _, _, _, h => h
  | .str _, _, _, h => h
  | .lst gg ts, _, f, ⟨a, vs, e1, e2, e3, e4⟩ => by
    obtain ⟨f1, f2⟩ := band (show (gg.isNone && T.frs ts) = true from f)
    cases gg with
    | some _ => cases f1
    | none => exact ⟨a, vs, e1, e2, (fun _ z => nomatch z), reps.noA f2 e4⟩
  | .tup _, _, f, ⟨a, vs, e1, e2, e4⟩ => ⟨a, vs, e1, e2, reps.noA f e4⟩
  | .ro _, _, f, _ => by cases f
  | .ins gg c ns ts, _, f, ⟨a, dx, vs, e1, e2, e3, e5, e4⟩ => by
    obtain ⟨f1, f2⟩ := band (show (gg.isNone && T.frs ts) = true from f)
    cases gg with
    | some _ => cases f1
    | none => exact ⟨a, dx, vs, e1, e2, e3, (fun _ z => nomatch z), reps.noA f2 e4⟩
  | .exn _ _ _, _, f, _ => by cases f
theorem reps.noA : ∀ {ts : List T} {vs : List V}, T.frs ts = true → reps G A F ts vs → reps G (fun _ => none) F ts vs
  | [], _, _, h => h
  | t :: ts, _, f, ⟨v, ws, e1, e2, e3⟩ => by
    obtain ⟨f1, f2⟩ := band (show (t.fr && T.frs ts) = true from f)
    exact ⟨v, ws, e1, rep.noA f1 e2, reps.noA f2 e3⟩
end
end
def rCmpM (C : Addr) (sp : Sp) : R2 := fun x y H Q => ∃ a b dx dy fs gs, x = .ref a ∧ y = .ref b ∧ H a = some (.ins C dx fs) ∧ H b = some (.ins C dy gs) ∧ sp [x, y] H (fun v H3 => ∃ z, v = .bl z ∧ Q (.bl z) H3) (fun _ _ _ => False)
section
variable {cl : Cl} {X : Cx} {c k : Nat} {f : Nat → List T → Res T} {C fa : Addr} {fd : FuncData} {ps : List Str} {sp : Sp} {op : CmpOp}
theorem op_cmpM (M : PySem.W.findIn X.K (.ref C) (cmpInfo op).2.1 = some (some (.ref fa))) (hf : PySem.W.isFn X.K (.ref fa) = true) (F : FnOk X.prog X.w X.K X.mg X.base (L2.CX X.prog X.w) k fa fd ps sp) (hr : Room k X.A) (hb : Binds X.K fd ps []) (hco : ∀ a b, compareOp op a b = richCompare op a b) : OpR X (compareOp op) (rCmpM C sp) := by
  intro pins s σ H x y v u Q I rx ry h
  obtain ⟨a, b, dx, dy, fs, gs, rfl, rfl, ha, hbb, h⟩ := h
  cases (show v = Value.ref a from rx)
  cases (show u = Value.ref b from ry)
  obtain ⟨mA, J, _⟩ := ins_get I.hok ha
  obtain ⟨mB, J', _⟩ := ins_get I.hok hbb
  obtain ⟨od, J, _⟩ := J.look
  obtain ⟨od', J', _⟩ := J'.look
  obtain ⟨m, hF⟩ := I.fr
  have key : wpAny (model X.prog X.w) X.A (richCompare op (.ref a) (.ref b)) (EP X pins σ Q) X.xe s := by
    refine PySem.W.cmp_K (op := op) (tb := .ref C) hr.units0 hF I.ok.mod.kin J J'.type (by simp [PySem.W.notFirst]) M hf ?_
    have hl := F.len _ _ _ _ h
    have r2 : Vals [V.ref a, V.ref b] [Value.ref a, Value.ref b] := .cons rfl (.cons rfl .nil)
    refine wpAny_call (codeAny_mono (F.run X.A X.stack s H ⟨[.ref a, .ref b], []⟩ [.ref a, .ref b] [.ref a, .ref b] _ _ hr I.env0 (by
      have := hb s [.ref a, .ref b] I.kIn (by simpa using hl)
      simpa using this) r2 h) fun r s' hq => ?_)
    cases r with
    | error e =>
      obtain ⟨_, _, _, _, _, _, _, _, _, _, _, _, z⟩ := hq
      exact z.elim
    | ok fl =>
      cases fl with
      | ret w =>
        obtain ⟨z, H', I', rz, z', ez, ex⟩ := I.after hq
        subst ez
        cases (show w = Value.bool z' from rz)
        exact ⟨.bl z', H', I', rfl, ex⟩
      | next => exact False.elim hq
      | brk => exact False.elim hq
      | cont => exact False.elim hq
  rw [hco]
  exact key
end
theorem opD_cmpM {cl : Cl} {X : Cx} {c k : Nat} {f : Nat → List T → Res T} {op : CmpOp} {m : Str} (D : Mok cl X.prog X.w X.K X.mg X.base m c k 2 f) (hr : Room k X.A) (ho : (cmpInfo op).2.1 = m := by rfl) (hco : ∀ a b, compareOp op a b = richCompare op a b := by intro _ _; rfl) : OpD X cl (compareOp op) (T.cmpM c (f 0)) := by
  obtain ⟨fa, fd, ps, M, F, hb⟩ := D
  subst ho
  refine ⟨_, op_cmpM M.at_ M.fn F hr hb hco, fun A F H Q E x y v w ok e rx ry o => ?_⟩
  unfold T.cmpM at o
  split at o
  · rename_i g1 c1 n1 t1 g2 c2 n2 t2
    split at o
    · rename_i hc
      obtain ⟨hc1, hc2, fx, fy⟩ := hc
      subst hc1
      subst hc2
      have rx' := rep.noA fx rx
      have ry' := rep.noA fy ry
      obtain ⟨a, dx, vs, rfl, h2, h3, h4, h5⟩ := rx
      obtain ⟨b, dy, ws, rfl, k2, k3, k4, k5⟩ := ry
      refine ⟨a, b, dx, dy, _, _, rfl, rfl, e _ _ h2, e _ _ k2, rfl, 0, fun _ => none, F, [_, _], ⟨fun _ _ _ z => (nomatch z), fun _ _ z => (nomatch z)⟩, fun _ _ z => (nomatch z), e, ⟨_, _, rfl, rx', _, _, rfl, ry', rfl⟩, ?_⟩
      split at o
      · rename_i b' hf
        rw [hf]
        intro v F1 H1 gr rv
        cases (show v = V.bl b' from rv)
        exact ⟨b', rfl, o _ F1 H1 gr rfl⟩
      · exact o.elim
    · exact o.elim
  · exact o.elim
/-! ### tuple * int -/
def T.mulT : T → T → Option T
  | .tup (t :: ts), .int k => if decide (2 ≤ k) && decide (k ≤ 1000) && decide (ts.length < 1000) then some (.tup (List.replicate k.toNat (t :: ts)).flatten) else none
  | _, _ => none
def T.mulA (x y : T) : Option T := (T.mul x y).or (T.mulT x y)
section
variable {cl : Cl} {X : Cx}
theorem opD_mulT : OpD X cl (binaryOp .Mult) T.mulT := ⟨_, op_repT, fun A F H Q E x y v w ok e rx ry o => by
  unfold T.mulT at o
  split at o
  · rename_i t ts k
    split at o
    · rename_i hc
      obtain ⟨hc, c3⟩ := band hc
      obtain ⟨c1, c2⟩ := band hc
      obtain ⟨a, vs, rfl, h2, h4⟩ := rx
      cases (show w = V.int k from ry)
      have hl := h4.length
      have e3 := of_decide_eq_true c3
      rw [List.length_cons] at hl
      refine ⟨a, k, vs, rfl, rfl, ex_s e h2, (fun z => by rw [z] at hl; cases hl), of_decide_eq_true c1, of_decide_eq_true c2, by omega, Out.tup o e (h4.flat _)⟩
    · exact o.elim
  · exact o.elim⟩
theorem opD_mulA : OpD X cl (binaryOp .Mult) T.mulA := opD_mul.or opD_mulT fun _ _ => rfl
end
/-! ### a method's promise -/
theorem mok_of {cl : Cl} {P : Program} {w : World} {K : PySem.W.Frag} {mg : Str → Option Value} {base : Heap} {m qual : Str} {params : Arguments} {body : List Stmt} {scope : Scope} {fa : Addr} {fd : FuncData} {N ps : List Str} {k n c : Nat} {fT : Nat → List T → Res T} {sT : Nat → Sx}
    (M : Meth K (cl.f c) m fa) (F : FunD K m qual params body scope [] [] fa fd) (S : FnScope N ps scope) (hn : n = ps.length) (hle : ps.length ≤ N.length) (p0 : cl.pin = none) (hf : ∀ d ts, fT d ts = run N.length (sT d) ts)
    (hb : ∀ (kV doc pm : Value) (an : Option Addr) (cdv ct : Value) (us : List Value), us.length = ps.length → bindArgs (PySem.W.fnOf m qual params body scope .none kV doc pm an cdv ct) ⟨us, []⟩ = pure (ps.zip us))
    (h : ∀ (d : Nat) (cdv : Value) (A : Around) (outer : List Env) (s : Shared) (H : Hp) (E : XK), Room k (A.deeper (envOfC qual scope s.heap.objs.size fa cdv)) → DB cl (XOf P w K mg base N qual scope fa cdv A outer s H E) d (WOf E) body (sT d)) :
    Mok cl P w K mg base m c (k + 1) n fT := ⟨fa, fd, ps, M, def_ok F S hn hle p0 hf h, F.bindsN hb⟩
theorem Mok.pin {cl : Cl} {x : Option (Nat × Addr)} {P : Program} {w : World} {K : PySem.W.Frag} {mg : Str → Option Value} {base : Heap} {m : Str} {c k n : Nat} {f : Nat → List T → Res T} (D : Mok cl P w K mg base m c k n f) : Mok (cl.pinned x) P w K mg base m c k n f := by
  obtain ⟨fa, fd, ps, h1, h2, h3⟩ := D
  exact ⟨fa, fd, ps, h1, by rw [spT_pin]; exact h2, h3⟩
/-! ### the head's Bools -/
open He
def insB (x : Str) (K : PySem.W.Frag) : Bool := (Fa.cls x).ok K && (decide (PySem.W.findIn K (.ref (ga K x)) "__class__" = some (some (.builtin "object.__class__"))) && (decide (PySem.W.specialIn K (.builtin "object.__class__") "__get__" = some (some (.builtin "getset_descriptor.__get__"))) && (decide (PySem.W.takesIn K (.builtin "object.__class__") = some true) && decide (PySem.W.mroIn K (ga K x) (.type "object") = some true))))
theorem insB_ok {x : Str} {K : PySem.W.Frag} (h : insB x K = true) : InsA K (ga K x) := by
  obtain ⟨h1, h⟩ := ba h
  obtain ⟨h2, h⟩ := ba h
  obtain ⟨h3, h⟩ := ba h
  obtain ⟨h4, h5⟩ := ba h
  exact ⟨He.cls_ok h1, of_decide_eq_true h2, of_decide_eq_true h3, of_decide_eq_true h4, of_decide_eq_true h5⟩
def tyValK (ns : List Str) (K : PySem.W.Frag) : TyK → Value
  | .inl n => .type n
  | .inr c => .ref (ga K (ns.getD c ""))
def iskB (ns : List Str) (tab : List (TyK × Bool)) (v : PySem.W.Frag → Value) (K : PySem.W.Frag) : Bool := tab.all fun p => decide (PySem.W.kitOne K (tyValK ns K p.1) (v K) = some p.2)
def iskTB (ns : List Str) (tab : List (TyK × Bool)) (v : PySem.W.Frag → List Value) (K : PySem.W.Frag) : Bool := tab.all fun p => decide (PySem.W.kitAny K (tyValK ns K p.1) (v K) = some p.2)
theorem mem_lookupK {tab : List (TyK × Bool)} {n : TyK} {b : Bool} (h : lookK tab n = some b) : (n, b) ∈ tab := by
  unfold lookK at h
  obtain ⟨p, h1, h2⟩ := Option.map_eq_some_iff.mp h
  have h3 := List.find?_some h1
  have h4 : p.1 = n := of_decide_eq_true h3
  subst h4 h2
  exact List.mem_of_find?_eq_some h1
theorem tyVal_clOf (ns : List Str) (K : PySem.W.Frag) (n : TyK) : tyVal (clOf ns K) n = tyValK ns K n := by cases n <;> rfl
theorem iskB_ok {ns : List Str} {tab : List (TyK × Bool)} {v : PySem.W.Frag → Value} {K : PySem.W.Frag} (h : iskB ns tab v K = true) : ∀ n b, lookK tab n = some b → PySem.W.kitOne K (tyVal (clOf ns K) n) (v K) = some b := fun n b e => by
  rw [tyVal_clOf]
  exact of_decide_eq_true (List.all_eq_true.mp h _ (mem_lookupK e))
theorem iskTB_ok {ns : List Str} {tab : List (TyK × Bool)} {v : PySem.W.Frag → List Value} {K : PySem.W.Frag} (h : iskTB ns tab v K = true) : ∀ n b, lookK tab n = some b → PySem.W.kitAny K (tyVal (clOf ns K) n) (v K) = some b := fun n b e => by
  rw [tyVal_clOf]
  exact of_decide_eq_true (List.all_eq_true.mp h _ (mem_lookupK e))
end Py

set_option Elab.async false
set_option linter.all false
set_option maxRecDepth 100000
set_option maxHeartbeats 4000000
namespace Py
open PySem L2 PySem.Spec PyProof.Rows Evl

/-! ### slices of lists and tuples -/
def T.cutA (t : T) (lo hi : Option Int) : Option T := match t with
  | .tup ts => some (.tup ((ts.drop (HT.sIx ts.length 0 lo)).take (HT.sIx ts.length ts.length hi - HT.sIx ts.length 0 lo)))
  | _ => T.cut t lo hi
def P.cutA (p : P.Ex1) (lo hi : Option P.Ex1) : P.Ex1 := fun env => (p env).bind fun t => (P.opart lo env).bind fun l => (P.opart hi env).bind fun u => .of (t.cutA l u)
section
variable {cl : Cl} {X : Cx} {d : Nat} {W : WX} {e : Expr} {p : P.Ex1} {pos p2 : Pos} {lo hi : Option Expr} {pl ph : Option P.Ex1}
theorem de_cutA (h : DE cl X d W e p) (hl : DO cl X d W lo pl) (hh : DO cl X d W hi ph) : DE cl X d W (.Subscript e (.Slice lo hi none p2) pos) (P.cutA p pl ph) := by
  obtain ⟨t, a1, a2⟩ := h
  obtain ⟨t1, b1, b2⟩ := hl
  obtain ⟨t2, c1, c2⟩ := hh
  refine ⟨_, pe_slice (SlR.or sl_list sl_tupA) a1 b1 c1, fun A env σ F H Q R e o => a2 A env σ F H _ R e (Outg.bind o fun x v F1 H1 g1 rx o1 =>
    b2 A env σ F1 H1 _ (R.mono g1.ex) g1.sub (Outg.bind o1 fun l l' F2 H2 g2 el o2 => ?_))⟩
  subst el
  refine c2 A env σ F2 H2 _ ((R.mono g1.ex).mono g2.ex) g2.sub (Outg.bind o2 fun u u' F3 H3 g3 eu o3 => ?_)
  subst eu
  have R3 := ((R.mono g1.ex).mono g2.ex).mono g3.ex
  have rx3 := (rx.mono g2.ex).mono g3.ex
  cases x <;> (try exact o3.elim)
  · obtain ⟨aa, vs, rfl, h1, h2, h3⟩ := rx3
    refine .inl ⟨aa, vs, rfl, SqL.of (g3.sub _ _ h1), ?_⟩
    refine Out.lst o3 R3.ok g3.sub ?_
    unfold cutV
    rw [h3.length]
    exact (h3.drop _).take _
  · rename_i ts
    obtain ⟨aa, vs, rfl, h1, h3⟩ := rx3
    have hl3 := h3.length
    refine .inr ⟨aa, vs, rfl, ex_s g3.sub h1, fun hw => ?_, fun hw p hp => ?_⟩
    · rw [hl3] at hw
      obtain ⟨w1, w2⟩ := hw
      have o4 : Out _ A F3 H3 Q (WE W σ) (.ok (.tup ((ts.drop (HT.sIx ts.length 0 l')).take (HT.sIx ts.length ts.length u' - HT.sIx ts.length 0 l')))) := o3
      rw [w1, w2, List.drop_zero, Nat.sub_zero, List.take_length] at o4
      exact Out.here o4 g3.sub ⟨aa, vs, rfl, h1, h3⟩
    · refine Out.tup o3 g3.sub ?_ p hp
      unfold cutV
      rw [hl3]
      exact (h3.drop _).take _
  · obtain ⟨aa, vs, rfl, h1, h3⟩ := rx3
    refine .inl ⟨aa, vs, rfl, ex_l g3.sub h1, ?_⟩
    refine Out.lst o3 R3.ok g3.sub ?_
    unfold cutV
    rw [h3.length]
    exact (h3.drop _).take _
end
/-! ### tuples added, the empty one among them -/
def T.addT0 : T → T → Option T
  | .tup [], .tup ys => if lfit ys.length = true then some (.tup ys) else none
  | _, _ => none
def T.addA (x y : T) : Option T := (T.add x y).or (T.addT0 x y)
theorem opD_addT0 {cl : Cl} {X : Cx} : OpD X cl (binaryOp .Add) T.addT0 := ⟨_, op_catA, fun A F H Q E x y v w ok e rx ry o => by
  unfold T.addT0 at o
  split at o
  · rename_i ys
    split at o
    · rename_i hc
      obtain ⟨a, vs, rfl, h1, h3⟩ := rx
      obtain ⟨b, ws, rfl, k1, k3⟩ := ry
      have e1 : vs = [] := h3
      subst e1
      refine ⟨a, b, [], ws, rfl, rfl, ex_s e h1, ex_s e k1, ?_, fun _ => Out.here o e ⟨b, ws, rfl, k1, k3⟩, fun z => absurd rfl z, fun z => absurd rfl z⟩
      rw [k3.length, List.length_nil, Nat.zero_add]
      exact of_decide_eq_true hc
    · exact o.elim
  · exact o.elim⟩
theorem opD_addA {cl : Cl} {X : Cx} : OpD X cl (binaryOp .Add) T.addA := opD_add.or opD_addT0 fun _ _ => rfl
end Py

set_option Elab.async false
set_option linter.all false
set_option maxRecDepth 100000
set_option maxHeartbeats 4000000
namespace Py
open PySem L2 PySem.Spec PyProof.Rows Evl

/-! ### keys of dicts: tuples of whole numbers and texts -/
abbrev Kt := List L2.Key
def T.ky : T → Option L2.Key
  | .int i => some (.inl i)
  | .str s => some (.inr s)
  | _ => none
def T.kys : List T → Option Kt
  | [] => some []
  | t :: ts => match T.ky t, T.kys ts with
    | some k, some ks => some (k :: ks)
    | _, _ => none
def T.kt : T → Option Kt
  | .tup ts => T.kys ts
  | _ => none
def kT : L2.Key → T
  | .inl i => .int i
  | .inr s => .str s
def ktT (k : Kt) : T := .tup (k.map kT)
/-- what stands at a key -/
def dval : List Kt → List T → Kt → Option T
  | k :: ks, t :: ts, j => if k = j then some t else dval ks ts j
  | _, _, _ => none
def drep : List Kt → List T → Kt → T → List T
  | k :: ks, t :: ts, j, u => (if k = j then u else t) :: drep ks ts j u
  | _, _, _, _ => []
def dputK (ks : List Kt) (ts : List T) (k : Kt) : List Kt := if (dval ks ts k).isSome = true then ks else ks ++ [k]
def dputT (ks : List Kt) (ts : List T) (k : Kt) (t : T) : List T := if (dval ks ts k).isSome = true then drep ks ts k t else ts ++ [t]
section
variable {G : Ge} {A : Al} {F H : Hp}
theorem kys_of : ∀ {ts : List T} {vs : List V} {k : Kt}, reps G A F ts vs → T.kys ts = some k → vs = k.map kV
  | [], vs, k, h, e => by cases e; exact h
  | t :: ts, vs, k, ⟨v, ws, h1, h2, h3⟩, e => by
    have e' : (match T.ky t, T.kys ts with
      | some k, some ks => some (k :: ks)
      | _, _ => none) = some k := e
    cases q1 : T.ky t with
    | none => rw [q1] at e'; cases e'
    | some k1 =>
      cases q2 : T.kys ts with
      | none => rw [q1, q2] at e'; cases e'
      | some k2 =>
        rw [q1, q2] at e'
        cases e'
        have h4 := kys_of h3 q2
        subst h1 h4
        have h5 : v = kV k1 := by
          cases t <;> cases q1
          · exact h2
          · exact h2
        rw [h5]
        rfl
theorem reps_kT : ∀ k : Kt, reps G A F (k.map kT) (k.map kV)
  | [] => rfl
  | k :: ks => ⟨_, _, rfl, by cases k <;> rfl, reps_kT ks⟩
theorem dval_of : ∀ {ks : List Kt} {ts : List T} {vs : List V} (j : Kt), reps G A F ts vs → vs.length = ks.length →
    (dval ks ts j = none ∧ valV (ks.zip vs) j = none) ∨ ∃ t v, dval ks ts j = some t ∧ valV (ks.zip vs) j = some v ∧ rep G A F t v
  | [], ts, vs, j, h, hl => by
    cases vs with
    | nil => exact .inl ⟨by cases ts <;> rfl, rfl⟩
    | cons v vs => cases hl
  | k :: ks, [], vs, j, h, hl => by
    rw [show vs = [] from h] at hl
    cases hl
  | k :: ks, t :: ts, vs, j, ⟨v, ws, h1, h2, h3⟩, hl => by
    subst h1
    have e0 : dval (k :: ks) (t :: ts) j = if k = j then some t else dval ks ts j := rfl
    have e1 : (k :: ks).zip (v :: ws) = (k, v) :: ks.zip ws := rfl
    rw [e0, e1]
    by_cases c : k = j
    · rw [if_pos c, valV_pos (p := (k, v)) c]
      exact .inr ⟨t, v, rfl, rfl, h2⟩
    · rw [if_neg c, valV_neg (p := (k, v)) c]
      exact dval_of j h3 (by simpa using hl)
theorem drep_of : ∀ {ks : List Kt} {ts : List T} {vs : List V} (j : Kt) {u : T} {w : V}, reps G A F ts vs → vs.length = ks.length → rep G A F u w →
    ∃ ws, reps G A F (drep ks ts j u) ws ∧ ws.length = ks.length ∧ (ks.zip vs).map (fun kv => if kv.1 = j then (kv.1, w) else kv) = ks.zip ws
  | [], ts, vs, j, u, w, h, hl, r => by
    cases vs with
    | nil =>
      refine ⟨[], ?_, rfl, rfl⟩
      cases ts <;> rfl
    | cons v vs => cases hl
  | k :: ks, [], vs, j, u, w, h, hl, r => by
    rw [show vs = [] from h] at hl
    cases hl
  | k :: ks, t :: ts, vs, j, u, w, ⟨v, ws, h1, h2, h3⟩, hl, r => by
    subst h1
    obtain ⟨xs, k1, k2, k3⟩ := drep_of j h3 (by simpa using hl) r
    refine ⟨(if k = j then w else v) :: xs, ⟨_, _, rfl, ?_, k1⟩, by simp [k2], ?_⟩
    · show rep G A F (if k = j then u else t) (if k = j then w else v)
      by_cases c : k = j
      · rw [if_pos c, if_pos c]; exact r
      · rw [if_neg c, if_neg c]; exact h2
    · show (if k = j then (k, w) else (k, v)) :: (ks.zip ws).map (fun kv => if kv.1 = j then (kv.1, w) else kv) = (k, if k = j then w else v) :: ks.zip xs
      rw [k3]
      by_cases c : k = j
      · rw [if_pos c, if_pos c]
      · rw [if_neg c, if_neg c]
theorem dput_of {ks : List Kt} {ts : List T} {vs : List V} (j : Kt) {u : T} {w : V} (h : reps G A F ts vs) (hl : vs.length = ks.length) (r : rep G A F u w) :
    ∃ ws, reps G A F (dputT ks ts j u) ws ∧ ws.length = (dputK ks ts j).length ∧ putK (ks.zip vs) j w = (dputK ks ts j).zip ws := by
  unfold dputT dputK putK
  rw [valV_any]
  rcases dval_of j h hl with ⟨d1, d2⟩ | ⟨t, v, d1, d2, _⟩
  · rw [d1, d2]
    refine ⟨vs ++ [w], h.append (reps.one r), by simp [hl], ?_⟩
    show ks.zip vs ++ [(j, w)] = (ks ++ [j]).zip (vs ++ [w])
    rw [List.zip_append (by rw [hl])]
    rfl
  · rw [d1, d2]
    exact drep_of j h hl r
end
/-! ### own dicts -/
section
variable {G : Ge} {d i : Nat} {W : WX} {A0 A : Al} {F0 H0 F H : Hp} {env : Fv} {σ : L2.St} {te ty : TE} {p q : P.Ex1}
theorem Rel.setNewD {ks : List Kt} {ts : List T} {vs : List V} {pa : Addr} (R : Rel G d A0 F0 H0 A env σ F H) (hH : H pa = some (.dT (ks.zip vs))) (hl : vs.length = ks.length) (hF : F pa = none) (h0 : H0 pa = none) (hne : ∀ g, A g ≠ some pa) (h : reps G A0 F ts vs) (hi : i < env.length) (hp : i = 0 → G.c.pin = none) :
    ∃ A', Rel G d A0 F0 H0 A' (env.set i (some (.od ks ts))) (σ.set i (some (.ref pa))) F H := by
  refine ⟨fun g => if g = (d, i) then some pa else A g, R.ok0, R.dep0, by rw [List.length_set, List.length_set]; exact R.len, fun g z => ?_, fun g a z => ?_, fun g g' a z y => ?_, fun j a z => ?_, R.exF, R.sub, R.keep, R.sep, fun j u e => ?_, fun j u e => ?_, fun j cc ns u e => ?_, fun j kk u e => ?_, fun b z => ?_⟩
  · show (if g = (d, i) then some pa else A g) = _
    rw [if_neg (fun y => by rw [y] at z; exact absurd z (Nat.lt_irrefl _))]
    exact R.agree g z
  · have z' : (if g = (d, i) then some pa else A g) = some a := z
    by_cases c : g = (d, i)
    · rw [c]; exact Nat.le_refl _
    · rw [if_neg c] at z'; exact R.dep g a z'
  · have z' : (if g = (d, i) then some pa else A g) = some a := z
    have y' : (if g' = (d, i) then some pa else A g') = some a := y
    by_cases c : g = (d, i)
    · by_cases c' : g' = (d, i)
      · rw [c, c']
      · rw [if_pos c] at z'; rw [if_neg c'] at y'
        cases z'
        exact absurd y' (hne g')
    · by_cases c' : g' = (d, i)
      · rw [if_neg c] at z'; rw [if_pos c'] at y'
        cases y'
        exact absurd z' (hne g)
      · rw [if_neg c] at z'; rw [if_neg c'] at y'; exact R.inj g g' a z' y'
  · have z' : (if (d, j) = (d, i) then some pa else A (d, j)) = some a := z
    by_cases c : (d, j) = (d, i)
    · rw [if_pos c] at z'
      cases z'
      exact ⟨hF, h0, by rw [hH]; trivial⟩
    · rw [if_neg c] at z'
      exact R.own j a z'
  · by_cases c : i = j
    · subst c
      rw [List.getElem?_set_self hi] at e
      cases e
    · rw [List.getElem?_set_ne c] at e ⊢
      exact R.fz j u e
  · by_cases c : i = j
    · subst c
      rw [List.getElem?_set_self hi] at e
      cases e
    · rw [List.getElem?_set_ne c] at e ⊢
      obtain ⟨p, vs, h1, h2, h3, h4⟩ := R.ol j u e
      refine ⟨p, vs, h1, ?_, h3, h4⟩
      show (if (d, j) = (d, i) then some pa else A (d, j)) = some p
      rw [if_neg (fun y => c (Prod.mk.inj y).2.symm)]
      exact h2
  · by_cases c : i = j
    · subst c
      rw [List.getElem?_set_self hi] at e
      cases e
    · rw [List.getElem?_set_ne c] at e ⊢
      obtain ⟨p, dx, vs, h1, h2, h3, h4⟩ := R.oi j cc ns u e
      refine ⟨p, dx, vs, h1, ?_, h3, h4⟩
      show (if (d, j) = (d, i) then some pa else A (d, j)) = some p
      rw [if_neg (fun y => c (Prod.mk.inj y).2.symm)]
      exact h2
  · by_cases c : i = j
    · subst c
      rw [List.getElem?_set_self hi] at e
      cases e
      exact ⟨pa, vs, List.getElem?_set_self (R.lt hi), if_pos rfl, hH, hl, h⟩
    · rw [List.getElem?_set_ne c] at e ⊢
      obtain ⟨p, vs, h1, h2, h3⟩ := R.od j kk u e
      refine ⟨p, vs, h1, ?_, h3⟩
      show (if (d, j) = (d, i) then some pa else A (d, j)) = some p
      rw [if_neg (fun y => c (Prod.mk.inj y).2.symm)]
      exact h2
  · rw [if_neg (fun y => by rw [hp (Prod.mk.inj y).2.symm] at z; cases z)]
    exact R.pin b z
theorem Rel.wrD {p : Addr} {ks ls : List Kt} {ts us : List T} {ws : List V} (R : Rel G d A0 F0 H0 A env σ F H) (e : env[i]? = some (some (.od ks ts))) (hs : σ[i]? = some (some (.ref p))) (hA : A (d, i) = some p) (hl : ws.length = ls.length) (h : reps G A0 F us ws) :
    Rel G d A0 F0 H0 A (env.set i (some (.od ls us))) σ F (upd H p (.dT (ls.zip ws))) where
  ok0 := R.ok0
  dep0 := R.dep0
  len := by rw [List.length_set]; exact R.len
  agree := R.agree
  dep := R.dep
  inj := R.inj
  own := fun j a z => by
    obtain ⟨h1, h2, h3⟩ := R.own j a z
    refine ⟨h1, h2, ?_⟩
    by_cases c : a = p
    · rw [c, upd_same]; trivial
    · rw [upd_ne c]; exact h3
  exF := R.exF
  sub := fun a o y => by
    have c : a ≠ p := fun c => by
      rw [c, (R.own i p hA).1] at y
      cases y
    rw [upd_ne c]
    exact R.sub a o y
  keep := fun a o y => by
    have c : a ≠ p := fun c => by
      rw [c, (R.own i p hA).2.1] at y
      cases y
    rw [upd_ne c]
    exact R.keep a o y
  sep := R.sep
  fz := fun j u y => by
    by_cases c : i = j
    · subst c
      rw [List.getElem?_set_self (get_lt e)] at y
      cases y
    · rw [List.getElem?_set_ne c] at y
      exact R.fz j u y
  ol := fun j u y => by
    by_cases c : i = j
    · subst c
      rw [List.getElem?_set_self (get_lt e)] at y
      cases y
    · rw [List.getElem?_set_ne c] at y
      obtain ⟨p2, vs, h1, h2, h3, h4⟩ := R.ol j u y
      refine ⟨p2, vs, h1, h2, ?_, h4⟩
      rw [upd_ne (fun z => c (by rw [z] at h2; exact (Prod.mk.inj (R.inj _ _ _ h2 hA)).2.symm))]
      exact h3
  oi := fun j cc ns u y => by
    by_cases c : i = j
    · subst c
      rw [List.getElem?_set_self (get_lt e)] at y
      cases y
    · rw [List.getElem?_set_ne c] at y
      obtain ⟨p2, dx, vs, h1, h2, h3, h5, h4⟩ := R.oi j cc ns u y
      refine ⟨p2, dx, vs, h1, h2, ?_, h5, h4⟩
      rw [upd_ne (fun z => c (by rw [z] at h2; exact (Prod.mk.inj (R.inj _ _ _ h2 hA)).2.symm))]
      exact h3
  od := fun j kk u y => by
    by_cases c : i = j
    · subst c
      rw [List.getElem?_set_self (get_lt e)] at y
      cases y
      exact ⟨p, ws, hs, hA, upd_same, hl, h⟩
    · rw [List.getElem?_set_ne c] at y
      obtain ⟨p2, vs, h1, h2, h3, h5, h4⟩ := R.od j kk u y
      refine ⟨p2, vs, h1, h2, ?_, h5, h4⟩
      rw [upd_ne (fun z => c (by rw [z] at h2; exact (Prod.mk.inj (R.inj _ _ _ h2 hA)).2.symm))]
      exact h3
  pin := R.pin

namespace S
def newD (i : Nat) : Sx := fun env => if i < env.length then .nx (env.set i (some (.od [] []))) else .stuck
def putD (i : Nat) (q p : P.Ex1) : Sx := fun env => match env[i]? with
  | some (some (.od ks ts)) => (p env).thenY env fun t => (q env).thenY env fun y => (match y.kt with
    | some k => if t.fr = true ∧ y.fr = true ∧ ks.length < sizeLine then .nx (env.set i (some (.od (dputK ks ts k) (dputT ks ts k t)))) else .stuck
    | none => .stuck)
  | _ => .stuck
end S
theorem Rel.runYg (R : Rel G d A0 F0 H0 A env σ F H) (he : SE G d W te p) {k : T → RS} {Q : VK} {D : Ends} (o : OutS G d A0 F0 H0 W D ((p env).thenY env k))
    (h : ∀ r v F1 H1, Ex F F1 → Rel G d A0 F0 H0 A env σ F1 H1 → (r.fr = true → rep G A0 F1 r v) → OutS G d A0 F0 H0 W D (k r) → Q v H1) : te σ H Q :=
  he A env σ _ H Q R.re R.subP (R.outY o fun r v F1 H1 g R1 r1 o1 => h r v _ H1 (R.low g).ex R1 (fun f => rep.out R g f r1) o1)
theorem kt_of {F : Hp} {A : Al} {y : T} {w : V} {k : Kt} (h : rep G A F y w) (e : y.kt = some k) : ∃ b, w = .ref b ∧ F b = some (.tup (k.map kV)) := by
  cases y <;> (try cases e)
  obtain ⟨b, ws, rfl, k1, k3⟩ := h
  have := kys_of k3 e
  subst this
  exact ⟨b, rfl, k1⟩
theorem ss_newD (hq : i = 0 → G.c.pin = none) : SS G d W (tAsg tDNewT (gName i)) (S.newD i) := fun A0 F0 H0 A env σ F H D R o => by
  have o' : OutS G d A0 F0 H0 W D (if i < env.length then .nx (env.set i (some (.od [] []))) else .stuck) := o
  obtain ⟨hi, o2⟩ := OutS.of_if o'
  intro pa hp
  have g : Grow F H F (upd H pa (.dT [])) := Grow.junk R.sub hp
  obtain ⟨A', R2⟩ := (R.grow g).setNewD (ks := []) (ts := []) (vs := []) upd_same rfl (none_of_ex R.sub hp) (none_of_ex R.keep hp) (R.noneA hp) rfl hi hq
  exact o2 A' _ F _ R2
theorem ss_putD (hk : SE G d W ty q) (he : SE G d W te p) : SS G d W (sDPut (tVar i) ty te) (S.putD i q p) := fun A0 F0 H0 A env σ F H D R o => by
  unfold S.putD at o
  split at o
  · rename_i ks ts e
    refine R.runYg he o fun t v F1 H1 x1 R1 r1 o1 => ?_
    obtain ⟨pa, vs, h1, h2, h3, h5, h4⟩ := R1.od i ks ts e
    refine ⟨_, h1, R1.runYg hk o1 fun y w F2 H2 x2 R2 r2 o2 => ?_⟩
    cases z : y.kt with
    | none => rw [z] at o2; exact o2.elim
    | some k =>
      rw [z] at o2
      obtain ⟨⟨c1, c2, c3⟩, o3⟩ := OutS.of_if o2
      obtain ⟨pb, vs2, k1, k2, k3, k5, k4⟩ := R2.od i ks ts e
      rw [h1] at k1
      cases k1
      obtain ⟨b, rfl, hb⟩ := kt_of (r2 c2) z
      have hz : (ks.zip vs2).length < sizeLine := by rw [List.length_zip, k5, Nat.min_self]; exact c3
      obtain ⟨ws, w1, w2, w3⟩ := dput_of k k4 k5 ((r1 c1).mono x2)
      refine ⟨_, _, rfl, DPut.t k3 (R2.sub _ _ hb) hz, ?_⟩
      rw [w3]
      exact o3 _ _ _ _ (R2.wrD e h1 k2 w2 w1)
  · exact o.elim
end
/-! ### reading -/
def T.dix (x y : T) : Option T := match x with
  | .dct _ ks ts => y.kt.bind fun k => dval ks ts k
  | _ => none
def T.dget (x y z : T) : Option T := match x with
  | .dct _ ks ts => y.kt.map fun k => (dval ks ts k).getD z
  | _ => none
def T.din (neg : Bool) (x y : T) : Option T := match y with
  | .dct _ ks ts => x.kt.map fun k => .bl ((dval ks ts k).isSome != neg)
  | _ => none
def isDct : T → Bool
  | .dct _ _ _ => true
  | _ => false
def P.dget (p q r : P.Ex1) : P.Ex1 := fun env => (p env).bind fun x => if isDct x = true then (q env).bind fun y => (r env).bind fun z => .of (T.dget x y z) else .stuck
section
variable {cl : Cl} {X : Cx} {d i k : Nat} {W : WX} {o e f v : Expr} {p q r : P.Ex1} {pos p1 p2 p' apos cpos : Pos} {x : Str}
theorem Room.u1 {k : Nat} {A : Around} (h : Room k A) : A.units + 1 < cLine := by have := h.un; omega
theorem dix_key {A : Al} {F1 F2 F3 H3 : Hp} {G : Ge} {ks : List Kt} {vs : List V} {a : Addr} {y : T} {w : V} {kk : Kt} (h1 : Rd F1 a (.dT (ks.zip vs))) (e13 : Ex F1 F3) (e23 : Ex F2 F3) (s : Ex F3 H3) (ry : rep G A F2 y w) (z : y.kt = some kk) :
    DGet H3 a w (valV (ks.zip vs) kk) := by
  obtain ⟨b, rfl, hb⟩ := kt_of ry z
  exact .inr ⟨_, _, b, rd_ex s (rd_ex e13 h1), rfl, s _ _ (e23 _ _ hb), rfl⟩
theorem de_dget (hr : Room k X.A) (ho : DE cl X d W o p) (he : DE cl X d W e q) (hf : DE cl X d W f r) (m : M2 X o "get" apos e f cpos := by exact ⟨rfl, rfl, rfl, rfl⟩) : DE cl X d W (.Call (.Attribute o "get" apos) [e, f] [] cpos) (P.dget p q r) := by
  obtain ⟨t1, a1, a2⟩ := ho
  obtain ⟨t2, b1, b2⟩ := he
  obtain ⟨t3, c1, c2⟩ := hf
  refine ⟨_, pe_dget2 (Room.u1 hr) a1 b1 c1 m, fun A env σ F H Q R ex o => a2 A env σ F H _ R ex (Outg.bind o fun x v F1 H1 g1 rx o1 => ?_)⟩
  cases x <;> (try exact o1.elim)
  rename_i g ks ts
  obtain ⟨a, vs, rfl, h1, h2, h3, h4⟩ := rx
  have o1' : Out _ A F1 H1 Q (WE W σ) ((q env).bind fun y => (r env).bind fun z => .of (T.dget (.dct g ks ts) y z)) := o1
  refine ⟨a, rfl, .inr ⟨_, rd_ex g1.sub h1⟩, b2 A env σ F1 H1 _ (R.mono g1.ex) g1.sub (Outg.bind o1' fun y w F2 H2 g2 ry o2 =>
    c2 A env σ F2 H2 _ ((R.mono g1.ex).mono g2.ex) g2.sub (Outg.bind o2 fun z u F3 H3 g3 rz o3 => ?_))⟩
  have o3' : Out _ A F3 H3 Q (WE W σ) (.of (y.kt.map fun k => (dval ks ts k).getD z)) := o3
  cases hk : y.kt with
  | none => rw [hk] at o3'; exact o3'.elim
  | some kk =>
    rw [hk] at o3'
    refine ⟨_, dix_key h1 (g2.ex.trans g3.ex) g3.ex g3.sub ry hk, ?_⟩
    have h5 := h4.mono (g2.ex.trans g3.ex)
    have o4 : Out _ A F3 H3 Q (WE W σ) (.ok ((dval ks ts kk).getD z)) := o3'
    rcases dval_of kk h5 h2 with ⟨d1, d2⟩ | ⟨t, v, d1, d2, d3⟩
    · rw [d1] at o4; rw [d2]
      exact Out.here o4 g3.sub rz
    · rw [d1] at o4; rw [d2]
      exact Out.here o4 g3.sub d3
theorem de_dix (hr : Room k X.A) (ho : DE cl X d W o p) (he : DE cl X d W e q) (hs : NoSl e := by exact fun _ _ => rfl) : DE cl X d W (.Subscript o e pos) (P.bin T.dix p q) := by
  obtain ⟨t1, a1, a2⟩ := ho
  obtain ⟨t2, b1, b2⟩ := he
  refine ⟨_, pe_dget (Room.u1 hr) a1 b1 hs, fun A env σ F H Q R ex o => a2 A env σ F H _ R ex (Outg.bind o fun x v F1 H1 g1 rx o1 =>
    b2 A env σ F1 H1 _ (R.mono g1.ex) g1.sub (Outg.bind o1 fun y w F2 H2 g2 ry o2 => ?_))⟩
  cases x <;> (try exact o2.elim)
  rename_i g ks ts
  obtain ⟨a, vs, rfl, h1, h2, h3, h4⟩ := rx
  have o2' : Out _ A F2 H2 Q (WE W σ) (.of (y.kt.bind fun k => dval ks ts k)) := o2
  cases hk : y.kt with
  | none => rw [hk] at o2'; exact o2'.elim
  | some kk =>
    rw [hk] at o2'
    have h5 := h4.mono g2.ex
    have o4 : Out _ A F2 H2 Q (WE W σ) (.of (dval ks ts kk)) := o2'
    rcases dval_of kk h5 h2 with ⟨d1, d2⟩ | ⟨t, v, d1, d2, d3⟩
    · rw [d1] at o4; exact o4.elim
    · rw [d1] at o4
      refine ⟨a, v, rfl, ?_, Out.here o4 g2.sub d3⟩
      rw [← d2]
      exact dix_key h1 g2.ex (Ex.refl _) g2.sub ry hk
theorem ds_newD (hN : X.N.Nodup) (hi : X.N[i]? = some x := by rfl) (hx : Loc X.env.scope x := by first | exact Or.inl rfl | exact Or.inr rfl) (hs : swapsWith (.Dict [] [] p2) (some (.Name x p')) pos.line X.env = pure false := by rfl)
    (hf : X.fn x = true ∨ X.env.scope.names.lookup x = some .local := by first | exact .inl rfl | exact .inr rfl) (hp : i = 0 → cl.pin = none := by first | (intro _; assumption) | (intro h; cases h)) : DS cl X d W (.Assign [.Name x p'] (.Dict [] [] p2) pos) (S.newD i) :=
  ⟨_, ps_set hN hi hx pe_dnewT hs hf, ss_newD hp⟩
theorem ds_putD (hr : Room k X.A) (h : DE cl X d W e p) (hk : DE cl X d W f q) (hN : X.N[i]? = some x := by rfl) (hv : Vis X.env.scope x := by first | exact Or.inl rfl | exact Or.inr (Or.inl rfl) | exact Or.inr (Or.inr rfl)) (hd : (x == ("__debug__" : Str)) = false := by decide) (hcd : (x == ("__classdict__" : Str)) = false := by decide)
    (hs : swapsWith e (some (.Subscript (.Name x p') f p2)) pos.line X.env = pure false := by rfl) : DS cl X d W (.Assign [.Subscript (.Name x p') f p2] e pos) (S.putD i q p) := by
  obtain ⟨t, a1, a2⟩ := h
  obtain ⟨t2, b1, b2⟩ := hk
  exact ⟨_, ps_dput (Room.u1 hr) (pe_var hN hv hd hcd) b1 a1 hs, ss_putD b2 a2⟩
end
/-! ### its keys as a list -/
def B.listD : List T → Option T
  | [.dct _ ks _] => some (.lst none (ks.map ktT))
  | _ => none
section
variable {cl : Cl} {X : Cx}
open Classical in
theorem keys_in {G : Ge} {A : Al} {F H : Hp} {E : XK} {Q : VK} {ks : List Kt} {vs : List V} {bs : List Addr} (hl : vs.length = ks.length) (ok : AOk A F) (e : Ex F H) (hb : IsKeys H (ks.zip vs) bs) (o : Out G A F H Q E (.ok (.lst none (ks.map ktT)))) (p : Addr) (hp : H p = none) :
    Q (.ref p) (upd H p (.lst (bs.map V.ref))) := by
  let F1 : Hp := fun a => if a ∈ bs then H a else F a
  have tup : ∀ {ks : List Kt} {vs : List V} {bs : List Addr}, vs.length = ks.length → IsKeys H (ks.zip vs) bs → ∀ b ∈ bs, ∃ k : Kt, H b = some (.tup (k.map kV)) := fun {ks} => by
    induction ks with
    | nil =>
      intro vs bs hl hb b hm
      cases hb
      cases hm
    | cons k ks ih =>
      intro vs bs hl hb b hm
      cases vs with
      | nil => cases hl
      | cons v vs =>
        cases hb with
        | cons h1 h2 =>
          rcases List.mem_cons.mp hm with z | z
          · subst z; exact ⟨k, h1⟩
          · exact ih (by simpa using hl) h2 b z
  have x1 : Ex F F1 := fun a u y => by
    show (if a ∈ bs then H a else F a) = some u
    by_cases c : a ∈ bs
    · rw [if_pos c]; exact e a u y
    · rw [if_neg c]; exact y
  have x2 : Ex F1 H := fun a u y => by
    have y' : (if a ∈ bs then H a else F a) = some u := y
    by_cases c : a ∈ bs
    · rw [if_pos c] at y'; exact y'
    · rw [if_neg c] at y'; exact e a u y'
  have g1 : Grow F H F1 H := ⟨x1, x2, Ex.refl _, fun a h1 h2 => by
    show (if a ∈ bs then H a else F a) = none
    by_cases c : a ∈ bs
    · obtain ⟨k, z⟩ := tup hl hb a c
      obtain ⟨u, y1, y2⟩ := h2
      rw [z] at y1
      cases y1
      exact absurd rfl (y2 _)
    · rw [if_neg c]; exact h1⟩
  have hF1 : F1 p = none := none_of_ex x2 hp
  have ok1 : AOk A F1 := ok.mono x1
  have rp : ∀ {ks : List Kt} {vs : List V} {cs : List Addr}, vs.length = ks.length → IsKeys H (ks.zip vs) cs → (∀ b ∈ cs, b ∈ bs) → reps G A F1 (ks.map ktT) (cs.map V.ref) := fun {ks} => by
    induction ks with
    | nil =>
      intro vs cs hl hb _
      cases hb
      rfl
    | cons k ks ih =>
      intro vs cs hl hb hs
      cases vs with
      | nil => cases hl
      | cons v vs =>
        cases hb with
        | cons h1 h2 =>
          rename_i b bs2
          refine ⟨_, _, rfl, ⟨b, k.map kV, rfl, ?_, reps_kT k⟩, ih (by simpa using hl) h2 fun c hc => hs c (List.mem_cons_of_mem _ hc)⟩
          show (if b ∈ bs then H b else F b) = _
          rw [if_pos (hs b List.mem_cons_self)]
          exact h1
  exact o _ (upd F1 p (.lst (bs.map V.ref))) (upd H p (.lst (bs.map V.ref))) (g1.trans (Grow.new x2 hp)) ⟨p, bs.map V.ref, rfl, upd_same, ok1.new hF1, (rp hl hb fun _ z => z).mono (Ex.new hF1)⟩
theorem crd_listD (hc : X.calm = true) : CRd cl X (.type "list") B.listD := ⟨_, call_list_dT hc, fun A F H Q E ts vs ok e r o => by
  unfold B.listD at o
  split at o
  · rename_i g ks us
    obtain ⟨v, rfl, a, ws, rfl, h1, h2, h3, h4⟩ := reps1 r
    exact ⟨a, _, rfl, rd_ex e h1, fun p bs hp hb => keys_in h2 ok e hb o p hp⟩
  · exact o.elim⟩
end
/-! ### pairs of whole numbers sorted -/
def prB : List T → Option (List (Int × Int))
  | [] => some []
  | t :: ts => match t, prB ts with
    | .tup [.int i, .int j], some l => some ((i, j) :: l)
    | _, _ => none
def prT2 (p : Int × Int) : T := .tup [.int p.1, .int p.2]
def psrt (l : List (Int × Int)) : List (Int × Int) := l.mergeSort fun p q => !SrtO.lexB q p
def B.sortedP : List T → Option T
  | [.lst _ ts] => match prB ts with
    | some l => some (.lst none ((psrt l).map prT2))
    | none => none
  | _ => none
theorem psrt_pw (l : List (Int × Int)) : (psrt l).Pairwise fun p q => SrtO.lexB q p = false := by
  have h := List.pairwise_mergeSort (le := fun p q : Int × Int => !SrtO.lexB q p) (fun a b c h1 h2 => by
    rw [Bool.not_eq_true'] at *
    have x := SrtO.lexB_no.mp h1
    have y := SrtO.lexB_no.mp h2
    refine SrtO.lexB_no.mpr ?_
    omega) (fun a b => by
    cases h1 : SrtO.lexB b a with
    | false => rfl
    | true =>
      have x := SrtO.lexB_iff.mp h1
      have y : SrtO.lexB a b = false := SrtO.lexB_no.mpr (by omega)
      rw [y]; rfl) l
  exact h.imp fun h => by rw [Bool.not_eq_true'] at h; exact h
theorem psrt_perm (l : List (Int × Int)) : (psrt l).Perm l := List.mergeSort_perm l _
theorem psrt_unique {l m : List (Int × Int)} (hp : m.Perm l) (hs : m.Pairwise fun p q => SrtO.lexB q p = false) : m = psrt l :=
  List.Perm.eq_of_pairwise (fun a b _ _ h1 h2 => by
    have x := SrtO.lexB_no.mp h1
    have y := SrtO.lexB_no.mp h2
    exact Prod.ext (by omega) (by omega)) hs (psrt_pw l) (hp.trans (psrt_perm l).symm)
theorem prB_eq : ∀ {ts : List T} {l : List (Int × Int)}, prB ts = some l → ts = l.map prT2
  | [], l, h => by cases h; rfl
  | t :: ts, l, h => by
    unfold prB at h
    split at h
    · rename_i i j l2 h2
      cases h
      rw [prB_eq h2]
      rfl
    · cases h
/-- the pair that stands at an address -/
def prV (H : Hp) : V → Int × Int
  | .ref t => match H t with
    | some (.tup [.int i, .int j]) => (i, j)
    | _ => (0, 0)
  | _ => (0, 0)
section
variable {cl : Cl} {X : Cx}
theorem prV_of {G : Ge} {A : Al} {F H : Hp} (e : Ex F H) : ∀ {l : List (Int × Int)} {vs : List V}, reps G A F (l.map prT2) vs → vs.map (prV H) = l ∧ ∀ v ∈ vs, ∃ t, v = .ref t ∧ F t = some (.tup [.int (prV H v).1, .int (prV H v).2])
  | [], vs, h => by
    rw [show vs = [] from h]
    exact ⟨rfl, fun v hv => by cases hv⟩
  | p :: l, vs, ⟨v, ws, h1, ⟨b, us, h2, h3, h4⟩, h5⟩ => by
    subst h1 h2
    obtain ⟨k1, k2⟩ := prV_of e h5
    obtain ⟨u1, w1, rfl, m1, u2, w2, rfl, m2, m3⟩ := h4
    cases m1
    cases m2
    have m4 : w2 = [] := m3
    subst m4
    have hv : prV H (.ref b) = p := by
      unfold prV
      simp only [e _ _ h3]
    refine ⟨by rw [List.map_cons, hv, k1], fun v hv2 => ?_⟩
    rcases List.mem_cons.mp hv2 with z | z
    · subst z
      rw [hv]
      exact ⟨b, rfl, h3⟩
    · exact k2 v z
theorem reps_prV {G : Ge} {A : Al} {F H : Hp} : ∀ {vs : List V}, (∀ v ∈ vs, ∃ t, v = .ref t ∧ F t = some (.tup [.int (prV H v).1, .int (prV H v).2])) → reps G A F ((vs.map (prV H)).map prT2) vs
  | [], _ => rfl
  | v :: vs, h => by
    obtain ⟨t, h1, h2⟩ := h v List.mem_cons_self
    exact ⟨v, vs, rfl, ⟨t, _, h1, h2, _, _, rfl, rfl, _, _, rfl, rfl, rfl⟩, reps_prV fun w hw => h w (List.mem_cons_of_mem _ hw)⟩
theorem crd_sortedP : CRd cl X (.builtin "sorted") B.sortedP := ⟨_, cr_sortedPO, fun A F H Q E ts vs ok e r o => by
  unfold B.sortedP at o
  split at o
  · rename_i g us
    obtain ⟨v, rfl, a, ws, rfl, h1, h2, h3⟩ := reps1 r
    cases z : prB us with
    | none => simp only [z] at o; exact o.elim
    | some l =>
      simp only [z] at o
      rw [prB_eq z] at h3
      obtain ⟨k1, k2⟩ := prV_of e h3
      refine ⟨a, ws, prV H, rfl, SqL.of (e _ _ h1), fun x hx => ?_, fun ys p hs hb hp => ?_⟩
      · obtain ⟨t, y1, y2⟩ := k2 x hx
        exact ⟨t, y1, e _ _ y2⟩
      · have e1 : ys.map (prV H) = psrt l := psrt_unique (by rw [← k1]; exact hb.perm.map _) (List.pairwise_map.mpr hs)
        have e2 : reps ⟨X.K, cl⟩ A F ((psrt l).map prT2) ys := by
          rw [← e1]
          exact reps_prV fun v hv => k2 v (hb.perm.mem_iff.mp hv)
        exact Out.lst o ok e e2 p hp
  · exact o.elim⟩
end
end Py

set_option Elab.async false
set_option linter.all false
set_option maxRecDepth 100000
set_option maxHeartbeats 4000000
namespace Py
open PySem L2 PySem.Spec PyProof.Rows Evl

/-! ### {k: v for ..} whose keys are tuples -/
section
variable {X : Cx} {pins : List (Addr × Obj)} {σ : L2.St} {H : Hp} {s : Shared}
theorem dictSetT {E : Value → Shared → Prop} {D b : Addr} {kvs : List (Kt × V)} {k : Kt} {v : V} {r : Value} {Q : Unit → Shared → Prop} (hu : X.A.units < cLine) (I : Inv X pins σ H s) (hD : H D = some (.dT kvs)) (hb : H b = some (.tup (k.map kV))) (hz : kvs.length < sizeLine)
    (rv : RelV v r) (h : ∀ s', Inv X pins σ (upd H D (.dT (putK kvs k v))) s' → Q () s') : wpAny (model X.prog X.w) X.A (dictSet D (.ref b) r) Q E s := by
  obtain ⟨z, hd, xs, rel, dd⟩ := dt_of I.hok hD
  have hzx : xs.length ≤ sizeLine := by rw [← Paired.length rel]; exact z
  have hl : (putK kvs k v).length ≤ sizeLine := by have := length_putK kvs k v; omega
  refine wpAny_dictSet_heap (hsz := hzx) hu (key_of I.hok hb) dd fun h' dd' hs => h _ ?_
  obtain ⟨q, es, ep, hq, h2, h3, h4, _, h5⟩ := dd'
  refine d_write I (by rw [hD]; exact True.intro) hs ⟨q, hq⟩ ⟨hl, hd, _, (rel.put k hb rv).keeps fun c ys ec => ?_, q, es, ep, hq, h2, h3, h4, h5⟩
  rw [upd_ne (ne_of ec hD (fun z => nomatch z))]
  exact ec
/-- what is asked of such a comprehension: D the new dict -/
def tDcT (wi : TI) (g : TG) (tt : TT) (tk tv : TE) (vs : List Nat) : TE := fun σ H Q => wi σ H fun J H1 => ∀ D, H1 D = none → ∃ W : Nat → Nat → Hp → Prop, (∃ m, W 0 m (upd H1 D (.dT []))) ∧ ∀ i m H, W i m H →
  (J.stop i H ∧ Q (.ref D) H) ∨ (J.go i H ∧ ∃ Nx : Hp → Prop, (∀ H', Nx H' → ∃ m', m' < m ∧ W (i + 1) m' H') ∧ ∀ x H', J.yld i H x H' → g x (L2.wipe σ vs) H' fun σ2 H2 => L2.wipe σ2 vs = L2.wipe σ vs ∧ tt σ2 H2 fun b H3 =>
    if b = true then tk σ2 H3 fun y H4 => tv σ2 H4 fun z H5 => ∃ (kvs : List (Kt × V)) (k : Kt) (c : Addr), y = .ref c ∧ H5 c = some (.tup (k.map kV)) ∧ H5 D = some (.dT kvs) ∧ kvs.length < sizeLine ∧ Nx (upd H5 D (.dT (putK kvs k z))) else Nx H3)
variable {Q : VK} {kx vx tg iter : Expr} {ifs : List Expr} {scope : Scope} {own : List (Str × Nat)} {pos pos' : Pos} {wi : TI} {g : TG} {tt : TT} {tk tv : TE} {use : Option (Value → Sem Unit)} {Qf : Value → Shared → Prop}
theorem dcT_core (hu : X.A.units < cLine) (hc : X.calm = true) (hN : X.N.Nodup) (I : Inv X pins σ H s) (hi : PI X tg iter wi) (ok : BlkOk X.N X.env.scope scope own)
    (hg : ∀ (s : Shared) (H : Hp) (C : Addr) (cl : List (Str × Addr)) (fp : List Addr), PG (X.blk s H scope (compEnvC scope cl C X.env) fp) tg g) (ht : ∀ (s : Shared) (H : Hp) (C : Addr) (cl : List (Str × Addr)) (fp : List Addr), PTs (X.blk s H scope (compEnvC scope cl C X.env) fp) ifs tt)
    (hk : ∀ (s : Shared) (H : Hp) (C : Addr) (cl : List (Str × Addr)) (fp : List Addr), PE (X.blk s H scope (compEnvC scope cl C X.env) fp) kx tk)
    (he : ∀ (s : Shared) (H : Hp) (C : Addr) (cl : List (Str × Addr)) (fp : List Addr), PE (X.blk s H scope (compEnvC scope cl C X.env) fp) vx tv) (hs : ∀ x, foldedSetIterable iter X.env x = pure x)
    (h : tDcT wi g tt tk tv (own.map (·.2)) σ H Q)
    (fine : ∀ D C s' m H', Inv X pins σ H' s' → Q (.ref D) H' → s'.heap.Ns C m → FpOk X pins H' C → compPost (model X.prog X.w) X.A X.xe use Qf (.ref D) C (.ok .next) s') :
    wpAny (model X.prog X.w) X.A (comprehension (.DictComp kx vx [⟨tg, iter, ifs, 0⟩] scope pos) scope X.env pos' newDict false (eval iter X.env) use) Qf X.xe s := by
  have caught : ∀ y ∈ scope.names, y.2 = .free → ∃ c, X.env.cells.lookup y.1 = some c := fun y hy e => I.ok.has _ (ok.free y hy e)
  refine wpAny_comprehension_free (use := use) rfl hs (closure_ok caught) ok.kind (fun y hy e => by rw [ok.uniq y hy, e])
    (thn (hi.run pins s σ H _ I h) fun xv s1 hx => thn hx fun itv s2 ⟨it, fp, tn, J, H2, e, I2, T, st2, f2, q⟩ => ?_)
  subst e
  refine wpAny_newObj_type (newEnv_comp ?_)
  generalize hD : s2.heap.objs.size = D
  obtain ⟨W, ⟨m0, w0⟩, turn⟩ := q D (I2.hok.fresh (Nat.le_of_eq hD))
  -- the new dict is there
  generalize hs3 : ({ s2 with heap := s2.heap.push { cls := .type "dict", data := .dict #[] } } : Shared) = s3
  have h3 : s3.heap = s2.heap.push { cls := .type "dict", data := .dict #[] } := by rw [← hs3]
  generalize hH3 : upd H2 D (.dT []) = H3 at w0
  have I3 : Inv X pins σ H3 s3 := by
    rw [← hs3, ← hH3]
    refine I2.laid (t' := s2.toks) (fun b o e => Heap.get?_push_of_some _ e) (Nat.le_of_eq hD) ?_
    rw [← hD]
    exact dt_empty s2.heap I2.big
  have f3 : ∀ b ∈ fp, FpOk X pins H3 b ∧ b < s3.heap.objs.size := fun b hb => by
    have hlt : b < s2.heap.objs.size := let ⟨o, e, _⟩ := T.obj _ _ st2 b hb; Heap.lt_size e
    refine ⟨⟨?_, (f2 b hb).2⟩, by rw [h3, Heap.size_push]; exact Nat.lt_succ_of_lt hlt⟩
    rw [← hH3, upd_ne (by rw [← hD]; exact Nat.ne_of_lt hlt)]
    exact (f2 b hb).1
  have st3 : tn 0 s3.heap := T.keep _ _ _ st2 fun b _ o e => by rw [h3]; exact Heap.get?_push_of_some _ e
  -- its block
  have I4 := block_start I3 ok hN f3
  have pg := hg s3 H3 s3.heap.objs.size (cellsFrom (s3.heap.objs.size + 1) scope.names (cloFrom X.env.cells scope.names [])) fp
  have pt := ht s3 H3 s3.heap.objs.size (cellsFrom (s3.heap.objs.size + 1) scope.names (cloFrom X.env.cells scope.names [])) fp
  have pk := hk s3 H3 s3.heap.objs.size (cellsFrom (s3.heap.objs.size + 1) scope.names (cloFrom X.env.cells scope.names [])) fp
  have pe := he s3 H3 s3.heap.objs.size (cellsFrom (s3.heap.objs.size + 1) scope.names (cloFrom X.env.cells scope.names [])) fp
  show codeAny _ _ (.compStart (.DictComp kx vx [⟨tg, iter, ifs, 0⟩] scope pos) 0 (.ref it) (.ref D) (compEnvC scope (cellsFrom (s3.heap.objs.size + 1) scope.names (cloFrom X.env.cells scope.names [])) s3.heap.objs.size X.env)) (compPost (model X.prog X.w) X.A X.xe use Qf (.ref D) s3.heap.objs.size) { s3 with heap := pushCells (s3.heap.push { cls := .type "dict", data := .dict #[] }) scope.names }
  generalize hce : compEnvC scope (cellsFrom (s3.heap.objs.size + 1) scope.names (cloFrom X.env.cells scope.names [])) s3.heap.objs.size X.env = ce at I4 pg pt pk pe ⊢
  have cL : ce.locals = s3.heap.objs.size := by subst hce; rfl
  generalize hs4 : ({ s3 with heap := pushCells (s3.heap.push { cls := .type "dict", data := .dict #[] }) scope.names } : Shared) = s4 at I4 ⊢
  have st4 : tn 0 s4.heap := T.keep _ _ _ st3 fun b _ o e => by rw [← hs4]; exact pushCells_keeps _ _ _ _ (Heap.get?_push_of_some _ e)
  have stays : ∀ {σ' : L2.St} {H' : Hp} {s' : Shared}, Inv (X.blk s3 H3 scope ce fp) [] σ' H' s' → (∀ b ∈ fp, H' b = none) → ∀ b ∈ fp, FpOk (X.blk s3 H3 scope ce fp) [] H' b := fun {σ' H' s'} I' hn b hb =>
    ⟨hn b hb, (I'.ok.exf b hb).1, I'.ok.exfs b hb, .inl hb, fun x c e => (I'.ok.exf b hb).2 x c e, fun p hp => absurd (show p ∈ ([] : List (Addr × Obj)) ++ [] from hp) (by simp)⟩
  let At : Nat → Shared → Prop := fun n s' => ∃ i H', Inv (X.blk s3 H3 scope ce fp) [] (L2.wipe σ (own.map (·.2))) H' s' ∧ tn i s'.heap ∧ (∀ b ∈ fp, H' b = none) ∧ W i n H'
  refine codeAny_compStart_dict ?_ (T.self X.A 0 _ _ _ st4 ?_) <;>
  · refine compLoop_anyD At ?_ m0 ⟨0, H3, I4, st4, fun b hb => (f3 b hb).1.1, w0⟩
    rintro n s5 ⟨i, H5, I5, st5, n5, w5⟩
    rcases turn i n H5 w5 with ⟨stop, qq⟩ | ⟨go, Nx, hNx, step⟩
    · refine thnF (T.done (X.blk s3 H3 scope ce fp) rfl rfl rfl hc i [] s5 _ H5 (fun _ _ => False) I5 (stays I5 n5) st5 stop) fun r s6 ⟨hr, I6⟩ => ?_
      subst hr
      have I7 : Inv X pins σ H5 s6 := I3.call' (ch := fp) I6.os I6.base I6.hok I6.bare fun b hb => ⟨(f3 b hb).1.2.2.2.1, (f3 b hb).1.2.1, (f3 b hb).1.2.2.2.2.1, (f3 b hb).1.2.2.2.2.2⟩
      have nC : H5 ce.locals = none := I6.free
      obtain ⟨m, hn, _⟩ := I6.loc
      have hn : s6.heap.Ns ce.locals m := hn
      rw [cL] at hn nC
      exact fine D _ s6 m H5 I7 qq hn (I3.fpOk (Nat.le_refl _) nC)
    · refine thnF (T.item (X.blk s3 H3 scope ce fp) rfl rfl rfl hc i [] s5 _ H5 (fun _ _ => False) I5 (stays I5 n5) st5 go) fun r s6 ⟨u, hr, h6⟩ => ?_
      subst hr
      refine thnF h6 fun _ s7 ⟨x, H7, I7, r7, y7, st7, n7⟩ => ?_
      refine thnF (pg.run _ s7 _ H7 x u _ (I7.pinned (stays I7 n7) (T.obj _ _ st7)) r7 (step x H7 y7)) fun _ s8 ⟨σ8, H8, I8, hw8, q8⟩ => ?_
      refine thnF (pt.run _ s8 σ8 H8 _ I8 q8) fun b s9 ⟨H9, I9, q9⟩ => ?_
      have turned : ∀ {s' : Shared} {H' : Hp}, Inv (X.blk s3 H3 scope ce fp) ([] ++ pinsAt fp s7.heap) σ8 H' s' → Nx H' → ∃ m, m < n ∧ At m s' := fun {s' H'} I' nx => by
        obtain ⟨m', hm, w'⟩ := hNx H' nx
        have same : ∀ b ∈ fp, ∀ o, s7.heap.get? b = some o → s'.heap.get? b = some o ∧ H' b = none := fun b hb o e =>
          let z := I'.pin (b, o) (List.mem_append_right _ (List.mem_append_right _ (mem_pinsAt hb e)))
          ⟨z.1, z.2.1⟩
        refine ⟨m', hm, i + 1, H', (I'.unpinned (pins := [])).weak (by rw [← hw8, wipe_length]) (fun j v e => ?_), T.keep _ _ _ st7 fun b hb o e => (same b hb o e).1, fun b hb => ?_, w'⟩
        · rw [← hw8] at e
          exact (wipe_some e).1
        · obtain ⟨o, e, _⟩ := T.obj _ _ st7 b hb
          exact (same b hb o e).2
      cases b with
      | false =>
        rw [if_neg Bool.false_ne_true] at q9 ⊢
        exact turned I9 q9
      | true =>
        rw [if_pos rfl] at q9 ⊢
        refine thnF (pk.run _ s9 σ8 H9 _ I9 q9) fun z s10 ⟨yk, H10, I10, r10, q10⟩ => ?_
        refine thnF (pe.run _ s10 σ8 H10 _ I10 q10) fun z2 s11 ⟨yv, H11, I11, r11, kvs, k, c, ek, hc11, hD11, hz11, nx⟩ => ?_
        subst ek
        obtain rfl : z = Value.ref c := r10
        exact dictSetT (X := X.blk s3 H3 scope ce fp) hu I11 hD11 hc11 hz11 r11 fun s12 I12 => turned I12 nx
/-- name = {..} on one line, the name a local -/
theorem ps_setDcT {i : Nat} {y : Str} {py spos : Pos} (hu : X.A.units < cLine) (hc : X.calm = true) (hN : X.N.Nodup) (hy : X.N[i]? = some y) (hyl : X.env.scope.names.lookup y = some .local)
    (hsw : swapsWith (.DictComp kx vx [⟨tg, iter, ifs, 0⟩] scope pos) (some (.Name y py)) spos.line X.env = pure true) (hi : PI X tg iter wi) (ok : BlkOk X.N X.env.scope scope own)
    (hg : ∀ (s : Shared) (H : Hp) (C : Addr) (cl : List (Str × Addr)) (fp : List Addr), PG (X.blk s H scope (compEnvC scope cl C X.env) fp) tg g) (ht : ∀ (s : Shared) (H : Hp) (C : Addr) (cl : List (Str × Addr)) (fp : List Addr), PTs (X.blk s H scope (compEnvC scope cl C X.env) fp) ifs tt)
    (hk : ∀ (s : Shared) (H : Hp) (C : Addr) (cl : List (Str × Addr)) (fp : List Addr), PE (X.blk s H scope (compEnvC scope cl C X.env) fp) kx tk)
    (he : ∀ (s : Shared) (H : Hp) (C : Addr) (cl : List (Str × Addr)) (fp : List Addr), PE (X.blk s H scope (compEnvC scope cl C X.env) fp) vx tv) (hs : ∀ x, foldedSetIterable iter X.env x = pure x) :
    PS X (.Assign [.Name y py] (.DictComp kx vx [⟨tg, iter, ifs, 0⟩] scope pos) spos) (tAsg (tDcT wi g tt tk tv (own.map (·.2))) (gName i)) := by
  refine ⟨fun pins s σ H D I h => ?_⟩
  rw [exec_Assign_Name_used _ _ _ _ hsw]
  refine wpAny_bind (wpAny_standAt (wpAny_bind ?_))
  show wpAny _ X.A (do let _ ← comprehension (.DictComp kx vx [⟨tg, iter, ifs, 0⟩] scope pos) scope X.env (firstIterPos [⟨tg, iter, ifs, 0⟩] pos) newDict false (eval iter X.env) (some (assign (.Name y py) X.env))) _ _ s
  have h : tDcT wi g tt tk tv (own.map (·.2)) σ H (fun x H1 => gName i x σ H1 D.nx) := h
  refine wpAny_bind (thn (dcT_core (Qf := fun _ s' => SP X pins D .next s') hu hc hN I hi ok hg ht hk he hs h fun L C s' m H' I' q hn f => ?_) fun _ s' hq => wpAny_pure (wpAny_pure hq))
  show wpAny _ _ (assign (.Name y py) X.env (.ref L)) _ _ _
  refine wpAny_assign_Name (store_ok2 (v := V.ref L) I' hN hy (.inl hyl) rfl (fun s2 I2 ⟨a, sb, ha⟩ => ?_) (.inr hyl))
  obtain ⟨f0, f1, f2, f3, f4, f5⟩ := f
  have other : C ≠ a := ha.elim (fun z => by rw [z]; exact f1) fun z e => f4 y a z e.symm
  exact ⟨m, hn.sameBut sb other, fun h3 sb3 => ⟨_, H', I2.turned (t' := s2.toks) (fun b o hb e => (sb3.2 b hb).trans e) f0 f1 f3 f4 f5, q⟩⟩
end
/-! ### as trees -/
def dstep (r : List Kt × List T) (p : T) : List Kt × List T := match p with
  | .tup [k, v] => (match k.kt with
    | some kk => (dputK r.1 r.2 kk, dputT r.1 r.2 kk v)
    | none => r)
  | _ => r
def dfold (ps : List T) : List Kt × List T := ps.foldl dstep ([], [])
def P.pairX (kp vp : P.Ex1) : P.Ex1 := fun env => (kp env).bind fun k => (vp env).bind fun v => if k.kt.isSome = true then .ok (.tup [k, v]) else .stuck
def P.dcomp (own : List Nat) (tg : T → Fv → Option Fv) (pi : Fv → Res (List T)) (t : P.Bx) (kp vp : P.Ex1) : Fv → Res (List Kt × List T) := fun env => (P.comp own tg pi t (P.pairX kp vp) env).bind fun ps => .ok (dfold ps)
def SND (G : Ge) (d : Nat) (W : WX) (te : TE) (p : Fv → Res (List Kt × List T)) : Prop :=
  ∀ A env σ F H (Q : VK), RE G d A env σ F → Ex F H → Outg G A F H (fun F1 (r : List Kt × List T) (b : Addr × List V × List Kt) => reps G A F1 r.2 b.2.1 ∧ b.2.1.length = r.1.length ∧ b.2.2 = r.1 ∧ F1 b.1 = none)
    (fun b H1 => H b.1 = none → H1 b.1 = some (.dT (b.2.2.zip b.2.1)) → Q (.ref b.1) H1) (WE W σ) (p env) → te σ H Q
section
variable {G : Ge} {d : Nat} {W : WX} {A : Al} {F H F1 H1 : Hp} {env : Fv} {σ : L2.St} {tk tv : TE} {kp vp : P.Ex1} {tt : TT} {b : P.Bx}
/-- where it stands -/
def DcAt (G : Ge) (A : Al) (F1 H1 : Hp) (tg : T → Fv → Option Fv) (b : P.Bx) (p : P.Ex1) (env : Fv) (xs all : List T) (Dl : Addr) (k : Nat) (H : Hp) : Prop :=
  ∃ F vs done rest, Grow F1 H1 F H ∧ F Dl = none ∧ H Dl = some (.dT ((dfold done).1.zip vs)) ∧ vs.length = (dfold done).1.length ∧ reps G A F (dfold done).2 vs ∧ (dfold done).1.length ≤ k ∧ P.turnsC tg b p env (xs.drop k) = .ok rest ∧ all = done ++ rest
theorem dputK_len (ks : List Kt) (ts : List T) (k : Kt) : (dputK ks ts k).length ≤ ks.length + 1 := by
  unfold dputK
  split
  · omega
  · rw [List.length_append]; exact Nat.le_refl _
theorem dfold_snoc (ps : List T) (p : T) : dfold (ps ++ [p]) = dstep (dfold ps) p := by
  unfold dfold
  rw [List.foldl_append]
  rfl
theorem turnsC_er {tg : T → Fv → Option Fv} {b : P.Bx} {p : P.Ex1} {env : Fv} {e : Exn} : ∀ xs, P.turnsC tg b p env xs ≠ .er e
  | [] => fun h => by cases h
  | x :: xs => fun h => by
    have h' : (match tg x env with
      | some env1 => (match b env1 with
        | .ok b => if b = true then (match p env1 with
            | .ok y => (P.turnsC tg ‹P.Bx› p env xs).bind fun ys => .ok (y :: ys)
            | _ => .stuck) else P.turnsC tg ‹P.Bx› p env xs
        | _ => .stuck)
      | none => .stuck) = Res.er e := h
    split at h'
    · split at h'
      · split at h'
        · split at h'
          · cases q : P.turnsC tg b p env xs with
            | ok ys => rw [q] at h'; cases h'
            | er e2 => rw [q] at h'; cases h'; exact turnsC_er xs q
            | stuck => rw [q] at h'; cases h'
          · cases h'
        · exact turnsC_er xs h'
      · cases h'
    · cases h'
theorem pair_at {A : Al} {F H : Hp} {yv : T} (hk : SE G d W0 tk kp) (hv : SE G d W0 tv vp) {σ' : L2.St} {env1 : Fv} (R : RE G d A env1 σ' F) (e : Ex F H) (h : P.pairX kp vp env1 = .ok yv)
    {N : V → V → Hp → Prop} (hN : ∀ k v kk c w F2 H2, Grow F H F2 H2 → yv = .tup [k, v] → k.kt = some kk → F2 c = some (.tup (kk.map kV)) → rep G A F2 v w → N (.ref c) w H2) : tk σ' H fun y H4 => tv σ' H4 fun z H5 => N y z H5 := by
  unfold P.pairX at h
  refine hk A env1 σ' F H _ R e ?_
  cases q1 : kp env1 with
  | er e => rw [q1] at h; cases h
  | stuck => rw [q1] at h; cases h
  | ok kt =>
    rw [q1, Res.bind_ok] at h
    intro kv F2 H2 g2 rk
    refine hv A env1 σ' F2 H2 _ (R.mono g2.ex) g2.sub ?_
    cases q2 : vp env1 with
    | er e => rw [q2] at h; cases h
    | stuck => rw [q2] at h; cases h
    | ok vt =>
      rw [q2, Res.bind_ok] at h
      intro vv F3 H3 g3 rv
      cases q3 : kt.kt with
      | none => rw [q3] at h; cases h
      | some kk =>
        rw [q3] at h
        have h' : Res.ok (T.tup [kt, vt]) = Res.ok yv := h
        cases h'
        obtain ⟨c, rfl, hc⟩ := kt_of rk q3
        exact hN kt vt kk c vv F3 H3 (g2.trans g3) rfl q3 (g3.ex _ _ hc) rv
theorem snd_dc {wi : TI} {g : TG} {pi : Fv → Res (List T)} {own : List Nat} {tg : T → Fv → Option Fv} (hi : SI G d W wi pi) (hg : SC G d own g tg) (ht : ST G d W0 tt b) (hk : SE G d W0 tk kp) (hv : SE G d W0 tv vp) :
    SND G d W (tDcT wi g tt tk tv own) (P.dcomp own tg pi b kp vp) := fun A env σ F H Q R e o => by
  refine hi A env σ F H _ R e ?_
  have o' : Outg G A F H (fun F1 (r : List Kt × List T) (b : Addr × List V × List Kt) => reps G A F1 r.2 b.2.1 ∧ b.2.1.length = r.1.length ∧ b.2.2 = r.1 ∧ F1 b.1 = none) (fun b H1 => H b.1 = none → H1 b.1 = some (.dT (b.2.2.zip b.2.1)) → Q (.ref b.1) H1) (WE W σ)
      (((pi env).bind fun xs => if lfit xs.length = true then P.turnsC tg b (P.pairX kp vp) (wipeE env own) xs else .stuck).bind fun ps => .ok (dfold ps)) := o
  cases z : pi env with
  | er e => rw [z] at o'; exact o'
  | stuck => rw [z] at o'; exact o'
  | ok xs =>
    rw [z, Res.bind_ok] at o'
    intro J F1 H1 g1 hJ Dl hD
    by_cases hz : lfit xs.length = true
    · rw [if_pos hz] at o'
      have hz' : xs.length ≤ sizeLine := of_decide_eq_true hz
      cases y : P.turnsC tg b (P.pairX kp vp) (wipeE env own) xs with
      | er e => exact absurd y (turnsC_er xs)
      | stuck => rw [y] at o'; exact o'.elim
      | ok all =>
        rw [y, Res.bind_ok] at o'
        have hF1 : F1 Dl = none := none_of_ex g1.sub hD
        have hH : H Dl = none := none_of_ex g1.keep hD
        refine ⟨fun k m H' => m = xs.length - k ∧ k ≤ xs.length ∧ DcAt G A F1 H1 tg b (P.pairX kp vp) (wipeE env own) xs all Dl k H', ⟨xs.length, by simp, Nat.zero_le _, F1, [], [], all, Grow.junk g1.sub hD, hF1, upd_same, rfl, rfl, Nat.le_refl _, y, rfl⟩, ?_⟩
        rintro k m H' ⟨rfl, hkl, Fk, vs, done, rest, gk, hFk, hHk, lk, rk, nk, tk', ek⟩
        have exk : Ex F1 Fk := gk.ex
        by_cases hlt : k < xs.length
        · refine .inr ⟨hJ.go k H' (exk.trans gk.sub) hlt, DcAt G A F1 H1 tg b (P.pairX kp vp) (wipeE env own) xs all Dl (k + 1), fun H'' p' => ⟨xs.length - (k + 1), by omega, rfl, hlt, p'⟩, fun x H2 yl => ?_⟩
          have hx : xs[k]? = some xs[k] := List.getElem?_eq_getElem hlt
          obtain ⟨F2, g2, rx⟩ := hJ.yld k Fk H' x H2 _ exk gk.sub hx yl
          rw [List.drop_eq_getElem_cons hlt] at tk'
          have tk2 : (match tg xs[k] (wipeE env own) with
            | some env1 => (match b env1 with
              | .ok bb => if bb = true then (match P.pairX kp vp env1 with
                  | .ok y => (P.turnsC tg b (P.pairX kp vp) (wipeE env own) (xs.drop (k + 1))).bind fun ys => .ok (y :: ys)
                  | _ => .stuck) else P.turnsC tg b (P.pairX kp vp) (wipeE env own) (xs.drop (k + 1))
              | _ => .stuck)
            | none => .stuck) = Res.ok rest := tk'
          cases q : tg xs[k] (wipeE env own) with
          | none => rw [q] at tk2; cases tk2
          | some env1 =>
            simp only [q] at tk2
            have Rw : RE G d A (wipeE env own) (L2.wipe σ own) F2 := ((R.wipe own).mono (g1.ex.trans (exk.trans g2.ex)))
            refine hg A _ _ F2 H2 _ x env1 _ Rw g2.sub rx q fun σ' R' hl hw => ⟨wipe_eq (by rw [hl, wipe_length]) hw, ?_⟩
            refine ht A env1 σ' F2 H2 _ R' g2.sub ?_
            cases q2 : b env1 with
            | er e => simp only [q2] at tk2; cases tk2
            | stuck => simp only [q2] at tk2; cases tk2
            | ok bb =>
              simp only [q2] at tk2
              intro bv F3 H3 g3 eb
              subst eb
              have gA : Grow F1 H1 F3 H3 := (gk.trans g2).trans g3
              have mtb : Mtb (H' Dl) := ⟨_, hHk, fun _ y => nomatch y⟩
              have hF3 : F3 Dl = none := (g2.trans g3).sep Dl hFk mtb
              have hH3 : H3 Dl = some (.dT ((dfold done).1.zip vs)) := g3.keep _ _ (g2.keep _ _ hHk)
              cases bb with
              | false => exact ⟨F3, vs, done, rest, gA, hF3, hH3, lk, rk.mono (g2.ex.trans g3.ex), Nat.le_succ_of_le nk, tk2, ek⟩
              | true =>
                rw [if_pos rfl]
                rw [if_pos rfl] at tk2
                cases q3 : P.pairX kp vp env1 with
                | er e => simp only [q3] at tk2; cases tk2
                | stuck => simp only [q3] at tk2; cases tk2
                | ok yt =>
                  simp only [q3] at tk2
                  refine pair_at hk hv (R'.mono g3.ex) g3.sub q3 fun kt vt kk c w F4 H4 g4 ey e1 hc rw_ => ?_
                  cases q4 : P.turnsC tg b (P.pairX kp vp) (wipeE env own) (xs.drop (k + 1)) with
                  | er e => rw [q4] at tk2; cases tk2
                  | stuck => rw [q4] at tk2; cases tk2
                  | ok ys =>
                    rw [q4] at tk2
                    cases tk2
                    have hF4 : F4 Dl = none := g4.sep Dl hF3 ⟨_, hH3, fun _ y => nomatch y⟩
                    have hH4 := g4.keep _ _ hH3
                    have gB := gA.trans g4
                    obtain ⟨ws, w1, w2, w3⟩ := dput_of kk ((rk.mono (g2.ex.trans g3.ex)).mono g4.ex) lk rw_
                    have ed : dfold (done ++ [yt]) = (dputK (dfold done).1 (dfold done).2 kk, dputT (dfold done).1 (dfold done).2 kk vt) := by
                      rw [dfold_snoc, ey]
                      unfold dstep
                      simp only [e1]
                    have hzl : ((dfold done).1.zip vs).length < sizeLine := by
                      rw [List.length_zip, lk, Nat.min_self]
                      omega
                    refine ⟨_, kk, c, rfl, gB.sub _ _ hc, hH4, hzl, F4, ws, done ++ [yt], ys, ⟨gB.ex, fun a o2 h2 => ?_, fun a o2 h2 => ?_, gB.sep⟩, hF4, ?_, ?_, ?_, ?_, q4, ?_⟩
                    · rw [upd_ne (fun c => by rw [c, hF4] at h2; cases h2)]
                      exact gB.sub a o2 h2
                    · rw [upd_ne (fun c => by rw [c, hD] at h2; cases h2)]
                      exact gB.keep a o2 h2
                    · rw [upd_same, ed, w3]
                    · rw [ed]; exact w2
                    · rw [ed]; exact w1
                    · rw [ed]
                      have := dputK_len (dfold done).1 (dfold done).2 kk
                      show (dputK _ _ _).length ≤ _
                      omega
                    · rw [ek, List.append_assoc] <;> rfl
        · have ek2 : k = xs.length := by omega
          subst ek2
          refine .inl ⟨hJ.stop _ H' (exk.trans gk.sub) (Nat.le_refl _), ?_⟩
          rw [List.drop_eq_nil_of_le (Nat.le_refl _)] at tk'
          cases tk'
          rw [List.append_nil] at ek
          subst ek
          exact o' (Dl, vs, (dfold all).1) Fk H' (g1.trans gk) ⟨rk, lk, rfl, hFk⟩ hH hHk
    · rw [if_neg hz] at o'
      exact o'.elim
end
section
variable {G : Ge} {d i : Nat} {W : WX} {te : TE} {pn : Fv → Res (List Kt × List T)}
theorem SND.se (h : SND G d W te pn) : SE G d W te (fun env => (pn env).bind fun r => .ok (.dct none r.1 r.2)) := fun A env σ F H Q R e o => by
  refine h A env σ F H Q R e ?_
  cases z : pn env with
  | er e => simp only [z] at o; exact o
  | stuck => simp only [z] at o; exact o
  | ok r =>
    simp only [z] at o
    rintro ⟨b, vs, ks⟩ F1 H1 g1 ⟨rs, hl, rfl, hF⟩ hp hH
    have hF0 : F b = none := none_of_ex e hp
    refine o (.ref b) (upd F1 b (.dT (r.1.zip vs))) H1 ⟨g1.ex.trans (Ex.new hF), fun a x y => ?_, g1.keep, fun a h1 h2 => ?_⟩ ⟨b, vs, rfl, .inl upd_same, hl, R.ok.new hF0, rs.mono (Ex.new hF)⟩
    · by_cases c : a = b
      · subst c
        rw [upd_same] at y
        rw [hH]
        exact y
      · rw [upd_ne c] at y
        exact g1.sub a x y
    · rw [upd_ne (fun c => h2.ne (by rw [c]; exact hp))]
      exact g1.sep a h1 h2
def S.newDc (i : Nat) (p : Fv → Res (List Kt × List T)) : Sx := fun env => (p (hide env)).then_ env fun r => if i < env.length then .nx (env.set i (some (.od r.1 r.2))) else .stuck
theorem ss_newDc (he : SND G d W te pn) (hq : i = 0 → G.c.pin = none) : SS G d W (tAsg te (gName i)) (S.newDc i pn) := fun A0 F0 H0 A env σ F H D R o => by
  refine he A0 (hide env) σ F H _ R.reH R.sub ?_
  have o' : OutS G d A0 F0 H0 W D ((pn (hide env)).then_ env fun r => if i < env.length then .nx (env.set i (some (.od r.1 r.2))) else .stuck) := o
  cases z : pn (hide env) with
  | ok r =>
    rw [z] at o'
    rintro ⟨b, vs, ks⟩ F1 H1 g ⟨rs, hl, rfl, hF⟩ hp hH
    obtain ⟨hi, o2⟩ := OutS.of_if o'
    obtain ⟨A', R2⟩ := (R.grow g).setNewD hH hl hF (none_of_ex R.keep hp) (R.noneA hp) rs hi hq
    exact o2 A' _ F1 _ R2
  | er e => rw [z] at o'; exact fun dx F1 H1 g x => o' A σ F1 H1 dx (R.grow g) x
  | stuck => rw [z] at o'; exact o'
end
section
variable {cl : Cl} {X : Cx} {d k : Nat} {W : WX} {kx vx iter tg : Expr} {ifs : List Expr} {kp vp : P.Ex1} {b : P.Bx} {own : List (Str × Nat)} {tgT : T → Fv → Option Fv} {pi : Fv → Res (List T)} {pos spos py : Pos} {scope : Scope}
theorem sw_trueD {gs : List Comprehension} {y : Str} {l : Nat} {env : Env} (hk : env.scope.kind = .function) (hy : env.scope.names.lookup y = some .local) (hl : (py.line == pos.line) = true)
    (ha : (scope.names.any fun (n, k) => n == y && (k == .local || k == .cell)) = false) : swapsWith (.DictComp kx vx gs scope pos) (some (.Name y py)) l env = pure true := by
  have ky : env.kindOf y = some .local := hy
  have hb : env.blockKind = .function := by unfold Env.blockKind; rw [hk]; rfl
  unfold swapsWith
  simp only [hb, ky, ha, Expr.pos, hl]
  rfl
theorem Room.u0 {k : Nat} {A : Around} (h : Room k A) : A.units < cLine := by have := h.un; omega
/-- y = {..}, frozen -/
theorem ds_asgDc {i : Nat} {y : Str} (hN : X.N.Nodup) (hr : Room k X.A) (hi : DI cl X d W tg iter pi) (ok : BlkOk X.N X.env.scope scope own)
    (hg : ∀ (s : Shared) (H : Hp) (C : Addr) (c : List (Str × Addr)) (fp : List Addr), DC cl (XBlk X scope s H C c fp) d (own.map (·.2)) tg tgT) (ht : ∀ (s : Shared) (H : Hp) (C : Addr) (c : List (Str × Addr)) (fp : List Addr), DTs cl (XBlk X scope s H C c fp) d W0 ifs b)
    (hk : ∀ (s : Shared) (H : Hp) (C : Addr) (c : List (Str × Addr)) (fp : List Addr), DE cl (XBlk X scope s H C c fp) d W0 kx kp) (hv : ∀ (s : Shared) (H : Hp) (C : Addr) (c : List (Str × Addr)) (fp : List Addr), DE cl (XBlk X scope s H C c fp) d W0 vx vp)
    (hsw : swapsWith (.DictComp kx vx [⟨tg, iter, ifs, 0⟩] scope pos) (some (.Name y py)) spos.line X.env = pure true) (hy : X.N[i]? = some y := by rfl) (hyl : X.env.scope.names.lookup y = some .local := by rfl) (hc : X.calm = true := by rfl) (hs : ∀ x, foldedSetIterable iter X.env x = pure x := by intro _; rfl) (hp : i = 0 → cl.pin = none := by first | (intro _; assumption) | (intro h; cases h)) :
    DS cl X d W (.Assign [.Name y py] (.DictComp kx vx [⟨tg, iter, ifs, 0⟩] scope pos) spos) (S.asg i (fun env => (P.dcomp (own.map (·.2)) tgT pi b kp vp env).bind fun r => .ok (.dct none r.1 r.2))) :=
  ⟨_, ps_setDcT (Room.u0 hr) hc hN hy hyl hsw hi.pI ok (fun s H C c fp => (hg s H C c fp).pg) (fun s H C c fp => (ht s H C c fp).pt) (fun s H C c fp => (hk s H C c fp).pe) (fun s H C c fp => (hv s H C c fp).pe) hs, ss_asg (SND.se (snd_dc si_cI sc_cC st_cT se_cE se_cE)) hp⟩
/-- .. of the frame's own -/
theorem ds_newDc {i : Nat} {y : Str} (hN : X.N.Nodup) (hr : Room k X.A) (hi : DI cl X d W tg iter pi) (ok : BlkOk X.N X.env.scope scope own)
    (hg : ∀ (s : Shared) (H : Hp) (C : Addr) (c : List (Str × Addr)) (fp : List Addr), DC cl (XBlk X scope s H C c fp) d (own.map (·.2)) tg tgT) (ht : ∀ (s : Shared) (H : Hp) (C : Addr) (c : List (Str × Addr)) (fp : List Addr), DTs cl (XBlk X scope s H C c fp) d W0 ifs b)
    (hk : ∀ (s : Shared) (H : Hp) (C : Addr) (c : List (Str × Addr)) (fp : List Addr), DE cl (XBlk X scope s H C c fp) d W0 kx kp) (hv : ∀ (s : Shared) (H : Hp) (C : Addr) (c : List (Str × Addr)) (fp : List Addr), DE cl (XBlk X scope s H C c fp) d W0 vx vp)
    (hsw : swapsWith (.DictComp kx vx [⟨tg, iter, ifs, 0⟩] scope pos) (some (.Name y py)) spos.line X.env = pure true) (hy : X.N[i]? = some y := by rfl) (hyl : X.env.scope.names.lookup y = some .local := by rfl) (hc : X.calm = true := by rfl) (hs : ∀ x, foldedSetIterable iter X.env x = pure x := by intro _; rfl) (hp : i = 0 → cl.pin = none := by first | (intro _; assumption) | (intro h; cases h)) :
    DS cl X d W (.Assign [.Name y py] (.DictComp kx vx [⟨tg, iter, ifs, 0⟩] scope pos) spos) (S.newDc i (P.dcomp (own.map (·.2)) tgT pi b kp vp)) :=
  ⟨_, ps_setDcT (Room.u0 hr) hc hN hy hyl hsw hi.pI ok (fun s H C c fp => (hg s H C c fp).pg) (fun s H C c fp => (ht s H C c fp).pt) (fun s H C c fp => (hk s H C c fp).pe) (fun s H C c fp => (hv s H C c fp).pe) hs, ss_newDc (snd_dc si_cI sc_cC st_cT se_cE se_cE) hp⟩
end
end Py

set_option Elab.async false
set_option linter.all false
set_option maxRecDepth 100000
set_option maxHeartbeats 4000000
namespace Py
open PySem L2 PySem.Spec PyProof.Rows Evl

/-! ### try with several clauses, each with a name -/
abbrev Clause := Value × Nat × (Addr → Value → Option Addr → TS)
/-- what the clauses wish, one after the other -/
def wRow (K : PySem.W.Frag) (Wout : WX) (D : Ends) : List Clause → WX
  | [] => Wout
  | (c, i, ts) :: r => fun cls d σ H => ∃ b, PySem.W.exmOne K cls c = some b ∧
    (b = true → ∀ a, H a = none → ts a cls d { nx := fun σ' H' => D.nx (σ'.set i none) H', rt := D.rt, bk := fun σ' H' => D.bk (σ'.set i none) H', ct := fun σ' H' => D.ct (σ'.set i none) H' } (σ.set i (some (.ref a))) H) ∧ (b = false → wRow K Wout D r cls d σ H)
inductive Row (X : Cx) : List ExceptHandler → List Clause → Prop
  | nil : Row X [] []
  | cons {x n : Str} {c : Value} {i : Nat} {ts : Addr → Value → Option Addr → TS} {b₀ : Stmt} {suite : List Stmt} {np pos' : Pos} {hds : List ExceptHandler} {l : List Clause} (hc : Names X x c) (hi : X.N[i]? = some n) (hln : X.env.kindOf n = some .local)
      (hsu : ∀ (a : Addr) (oe : Obj) (cls : Value) (d : Option Addr) (pn : List (Addr × Obj)), Zc cls d oe → (∃ vs, oe.data = .fields vs) → PSs (X.suite a ((a, oe) :: pn)) (b₀ :: suite) (ts a cls d)) (r : Row X hds l) :
      Row X (.ExceptHandler (some (.Name x np)) (some n) (b₀ :: suite) pos' :: hds) ((c, i, ts) :: l)
section
variable {X : Cx} {body : List Stmt} {h₀ : ExceptHandler} {hds : List ExceptHandler} {l : List Clause} {pos : Pos} {tb : WX → TS} {Wout : WX}
/-- a flow of the suite, the name gone -/
theorem suiteEnds {pins : List (Addr × Obj)} {D : Ends} {i : Nat} {a : Addr} {oe : Obj} {pn : List (Addr × Obj)} {f : Flow} {s : Shared} {g : Sem Unit}
    (gone : ∀ {σ6 : L2.St} {H6 : Hp} {Q : Shared → Prop}, Inv (X.suite a ((a, oe) :: pn)) [] σ6 H6 s → (∀ s7, Inv X pins (σ6.set i none) H6 s7 → Q s7) → wpAny (model X.prog X.w) X.A g (fun _ s7 => Q s7) X.xe s)
    (h : SP (X.suite a ((a, oe) :: pn)) [] { nx := fun σ' H' => D.nx (σ'.set i none) H', rt := D.rt, bk := fun σ' H' => D.bk (σ'.set i none) H', ct := fun σ' H' => D.ct (σ'.set i none) H' } f s) : wpAny (model X.prog X.w) X.A g (fun _ s7 => SP X pins D f s7) X.xe s := by
  cases f with
  | next => obtain ⟨_, _, S6, q6⟩ := h; exact gone S6 fun s7 J7 => ⟨_, _, J7, q6⟩
  | brk => obtain ⟨_, _, S6, q6⟩ := h; exact gone S6 fun s7 J7 => ⟨_, _, J7, q6⟩
  | cont => obtain ⟨_, _, S6, q6⟩ := h; exact gone S6 fun s7 J7 => ⟨_, _, J7, q6⟩
  | ret u => obtain ⟨_, _, _, S6, r6, q6⟩ := h; exact gone S6 fun s7 J7 => ⟨_, _, _, J7, r6, q6⟩
theorem ps_try_row (hs : X.stack = X.env :: X.outer) (hf : X.env.frame = some X.env.locals) (hN : X.N.Nodup) (tk : Takes X Wout)
    (hb : ∀ (W : WX) (pn : List (Addr × Obj)) (xe : Value → Shared → Prop), Takes (X.tr pn xe) W → PassesOwn (model X.prog X.w) X.A X.env xe → PSs (X.tr pn xe) body (tb W))
    (hh : Row X (h₀ :: hds) l) : PS X (.Try body (h₀ :: hds) [] [] pos) (fun D σ H => tb (wRow X.K Wout D l) D σ H) := by
  refine ⟨fun pins s σ H D I h => ?_⟩
  have ok := I.ok
  have hfr : X.A.frames = some (X.env :: X.outer) := by rw [ok.frames, hs]
  refine wpAny_Try_except ?_
  refine wpAny_mono ((hb (wRow X.K Wout D l) (X.pn ++ pins) (fun e s₁ => wpAny (model X.prog X.w) X.A (noteFrame e X.env) (fun _ s₂ => wpAny (model X.prog X.w) X.A (setFlight e none) (fun _ s₃ =>
    wpAny (model X.prog X.w) X.A (handleBy e X.env (h₀ :: hds)) (SP X pins D) X.xe s₃) X.xe s₂) X.xe s₁) (fun u s' xx => ?_) PassesOwn.looking).run [] s σ H D (I.toTry _) h) (fun f s1 hsp => ?_) (fun e s1 he => he)
  · obtain ⟨a, B, sI, pins', σ', H', cls, d, rfl, J', nb, up, sky, na, os, ag, w⟩ := xx
    have J : Inv X pins σ' H' sI := J'.ofTry ok
    show wpAny (model X.prog X.w) X.A (noteFrame (.ref a) X.env) _ _ _
    refine Sky.land Zc.steady hfr hf (by rw [← hs]; exact sky) fun h3 fl3 up3 => ?_
    have J3 : Inv X pins σ' H' { s' with heap := h3 } := J.landed nb fl3.1 (up.trans up3) os ag
    obtain ⟨oe3, vs3, he3, hz3, hd3⟩ := fl3.there
    -- no frame stands at the exception
    have nfr : a ∉ frs (X.env :: X.outer) := fun hm => by
      obtain ⟨_, o', e', hnf⟩ := fl3.2.2.1.mem hm
      rw [he3] at e'; cases e'
      exact hnf _ hd3
    have nL : a ≠ X.env.locals := fun z => nfr (List.mem_filterMap.mpr ⟨X.env, List.mem_cons_self, by rw [hf, z]⟩)
    have nF : a ∉ X.fs := fun hm => by
      obtain ⟨e, he, q⟩ := List.mem_filterMap.mp hm
      exact nfr (List.mem_filterMap.mpr ⟨e, List.mem_cons_of_mem _ he, q⟩)
    have S3 := J3.suite he3 hd3 na nL nF
    have LT : PySem.W.Looks (model X.prog X.w) h3 (typeOf (.ref a)) cls := fun A Q E s k q => wpAny_typeOf_ref (k _ _ he3) (by rw [hz3.1]; exact q)
    have walk : ∀ {hds' : List ExceptHandler} {l' : List Clause}, Row X hds' l' → wRow X.K Wout D l' cls d σ' H' → wpAny (model X.prog X.w) X.A (handleBy (.ref a) X.env hds') (SP X pins D) X.xe { s' with heap := h3 } := by
      intro hds' l' hk
      induction hk with
      | nil =>
        intro w
        refine wpAny_handleBy_nil ?_
        obtain ⟨k1, k2, k3, oe, vs, T, oT, ts', he, hz, hd, h1, hr⟩ := id fl3
        unfold PySem.passOn
        refine wpAny_bind (wpAny_field he hd h1 ?_)
        rw [if_neg (show ¬ ((Value.ref T == Value.none) = true) from by simp)]
        have fin : wpAny (model X.prog X.w) X.A (setFlight (.ref a) X.env.frame) (fun _ s4 => wpAny (model X.prog X.w) X.A (throw (.ref a) : Sem Flow) (SP X pins D) X.xe s4) X.xe { s' with heap := h3 } := by
          rw [hf]
          refine HandSPX.setFlight_upZ fl3 fun h4 hh4 up4 => wpAny_throw (tk _ _ ?_)
          exact ⟨a, B, sI, pins, σ', H', cls, d, rfl, J, nb, (up.trans up3).trans up4, .inr (.inr (by rw [hs]; exact hh4)), na, os, ag, w⟩
        first
          | exact wpAny_bind (wpAny_pure (wpAny_bind fin))
          | exact wpAny_bind fin
      | @cons x n c i ts b₀ suite np pos' hds2 l2 hc hi hln hsu r ih =>
        rintro ⟨b, hb1, yes, no⟩
        refine wpAny_handleBy_cons (codeAny_handlers_test ?_) (by intro q; cases q)
        have LM := PySem.W.exm_one (M := model X.prog X.w) (J3.kIn) LT hb1
        have test : ∀ {Q : Value → Shared → Prop} {E : Value → Shared → Prop}, Q c { s' with heap := h3 } → wpAny (model X.prog X.w) (X.A.mark (some (.ref a))) (eval (.Name x np) X.env) Q E { s' with heap := h3 } := fun {Q E} q => by
          obtain ⟨hg, hdbg, hm | ⟨hm, hv, hnn⟩⟩ := hc
          · exact ld_glob (X := X.suite a ((a, oe3) :: (X.pn ++ pins))) S3 hg hm q hdbg
          · exact ld_blt (X := X.suite a ((a, oe3) :: (X.pn ++ pins))) S3 hg hm hv q hnn hdbg
        refine test (LM.here ?_)
        cases b with
        | true =>
          refine codeAny_handlers_suite_as (HandSPX.lands_againZ fl3 fun h4 fl4 up4 => ?_)
          have J4 : Inv X pins σ' H' { s' with heap := h4 } := J.landed nb fl4.1 ((up.trans up3).trans up4) os ag
          obtain ⟨oe4, vs4, he4, hz4, hd4⟩ := fl4.there
          refine store_ok (X := X.suite a ((a, oe4) :: (X.pn ++ pins))) (v := .ref a) (J4.suite he4 hd4 na nL nF) hN hi (.inl hln) rfl (fun s5 S5 => ?_) (.inr hln)
          refine wpAny_mono ((hsu a oe4 cls d (X.pn ++ pins) hz4 ⟨_, hd4⟩).run [] s5 _ H' _ S5 (yes rfl a na)) (fun f s6 hsp => ?_) (fun _ _ z => False.elim z)
          have e := suiteEnds (pins := pins) (D := D) (i := i) (g := do bindName X.env n .none; unbindBehindTheSuite X.env n pos') (fun {σ6 H6 Q} S6 hq => gone_ok (S6.unsuite ok) hN hi hln hq) hsp
          cases f <;> exact e
        | false => exact ih (no rfl)
    exact walk hh w
  · cases f with
    | next => obtain ⟨σ', H', J', q⟩ := hsp; exact wpAny_execs_nil ⟨σ', H', J'.ofTry ok, q⟩
    | brk => obtain ⟨σ', H', J', q⟩ := hsp; exact ⟨σ', H', J'.ofTry ok, q⟩
    | cont => obtain ⟨σ', H', J', q⟩ := hsp; exact ⟨σ', H', J'.ofTry ok, q⟩
    | ret u => obtain ⟨v, σ', H', J', r, q⟩ := hsp; exact ⟨v, σ', H', J'.ofTry ok, r, q⟩
end
/-! ### as trees -/
abbrev Hdl := (Nat → Option Bool) × Nat × Sx
def S.handle (e : Exn) (env : Fv) : List Hdl → RS
  | [] => .er e env
  | h :: r => match h.1 e.c with
    | some true => if h.2.1 < env.length then S.done h.2.1 (h.2.2 (env.set h.2.1 (some (.fz (.exn e.c e.ns e.ts))))) else .stuck
    | some false => S.handle e env r
    | none => .stuck
def S.tryR (rows : List Hdl) (s : Sx) : Sx := fun env => match s env with
  | .er e env1 => S.handle e env1 rows
  | r => r
section
variable {K : PySem.W.Frag} {cl : Cl} {d : Nat} {W : WX} {s : Sx} {tb : WX → TS}
inductive RowS (K : PySem.W.Frag) (cl : Cl) (d : Nat) : List Clause → List Hdl → Prop
  | nil : RowS K cl d [] []
  | cons {c : Value} {i : Nat} {ts : Addr → Value → Option Addr → TS} {tk : Nat → Option Bool} {u : Sx} {l : List Clause} {rs : List Hdl} (hp : i = 0 → cl.pin = none) (htk : ∀ n b, tk n = some b → PySem.W.exmOne K (.ref (cl.f n)) c = some b) (hu : ∀ a cls dx, SS ⟨K, cl.hold (a, cls, dx)⟩ d W0 (ts a cls dx) u) (r : RowS K cl d l rs) :
      RowS K cl d ((c, i, ts) :: l) ((tk, i, u) :: rs)
theorem handle_ok (h0 : cl.xh = none) {A0 : Al} {F0 H0 : Hp} {D : Ends} {e : Exn} {env1 : Fv} : ∀ {l : List Clause} {rs : List Hdl}, RowS K cl d l rs → OutS ⟨K, cl⟩ d A0 F0 H0 W D (S.handle e env1 rs) →
    ∀ {A1 : Al} {σ1 : L2.St} {F1 H1 : Hp} {dx : Option Addr}, Rel ⟨K, cl⟩ d A0 F0 H0 A1 env1 σ1 F1 H1 → xrep ⟨K, cl⟩ A0 F1 e dx → wRow K W D l (.ref (cl.f e.c)) dx σ1 H1 := by
  intro l rs h
  induction h with
  | nil => exact fun o {A1 σ1 F1 H1 dx} R1 x1 => o A1 σ1 F1 H1 dx R1 x1
  | @cons c i ts tk u l rs hp htk hu r ih =>
    intro o A1 σ1 F1 H1 dx R1 x1
    have o' : OutS ⟨K, cl⟩ d A0 F0 H0 W D (match tk e.c with
      | some true => if i < env1.length then S.done i (u (env1.set i (some (.fz (.exn e.c e.ns e.ts))))) else .stuck
      | some false => S.handle e env1 rs
      | none => .stuck) := o
    cases q : tk e.c with
    | none => rw [q] at o'; exact o'.elim
    | some b =>
      refine ⟨b, htk _ _ q, fun hbt a ha => ?_, fun hbf => ?_⟩
      · subst hbt
        simp only [q] at o'
        obtain ⟨hi, o2⟩ := OutS.of_if o'
        have R2 : Rel ⟨K, cl.hold (a, .ref (cl.f e.c), dx)⟩ d A0 F0 H0 A1 env1 σ1 F1 H1 := R1.hold h0
        have rx : rep ⟨K, cl.hold (a, .ref (cl.f e.c), dx)⟩ A0 F1 (.exn e.c e.ns e.ts) (.ref a) := ⟨a, _, dx, rfl, rfl, rfl, match x1 with
          | .inl z => .inl z
          | .inr ⟨dd, vs, k1, k2, k3, k4⟩ => .inr ⟨dd, vs, k1, k2, k3, k4.hold h0⟩⟩
        obtain ⟨A2, R3⟩ := R2.set rx hi hp
        refine hu a _ dx A0 F0 H0 A2 _ _ F1 H1 _ R3 ?_
        cases z2 : u (env1.set i (some (.fz (.exn e.c e.ns e.ts)))) with
        | nx env2 =>
          rw [z2] at o2
          obtain ⟨n, o3⟩ := OutS.of_if o2
          intro A4 σ4 F4 H4 R4
          obtain ⟨A5, R5⟩ := R4.gone (i := i) hp
          exact o3 A5 _ F4 H4 (R5.dropX n)
        | br env2 =>
          rw [z2] at o2
          obtain ⟨n, o3⟩ := OutS.of_if o2
          intro A4 σ4 F4 H4 R4
          obtain ⟨A5, R5⟩ := R4.gone (i := i) hp
          exact o3 A5 _ F4 H4 (R5.dropX n)
        | ct env2 =>
          rw [z2] at o2
          obtain ⟨n, o3⟩ := OutS.of_if o2
          intro A4 σ4 F4 H4 R4
          obtain ⟨A5, R5⟩ := R4.gone (i := i) hp
          exact o3 A5 _ F4 H4 (R5.dropX n)
        | rt t =>
          rw [z2] at o2
          obtain ⟨n, o3⟩ := OutS.of_if o2
          intro v F4 H4 g r
          exact o3 v F4 H4 g (r.drop n)
        | er e2 env2 => rw [z2] at o2; exact o2.elim
        | stuck => rw [z2] at o2; exact o2.elim
      · subst hbf
        simp only [q] at o'
        exact ih o' R1 x1
theorem ss_tryR {l : List Clause} {rs : List Hdl} (h0 : cl.xh = none) (hr : RowS K cl d l rs) (hb : ∀ W', SS ⟨K, cl⟩ d W' (tb W') s) : SS ⟨K, cl⟩ d W (fun D σ H => tb (wRow K W D l) D σ H) (S.tryR rs s) := fun A0 F0 H0 A env σ F H D R o => by
  refine hb _ A0 F0 H0 A env σ F H D R ?_
  have o' : OutS ⟨K, cl⟩ d A0 F0 H0 W D (match s env with
    | .er e env1 => S.handle e env1 rs
    | r => r) := o
  cases z : s env with
  | nx env => rw [z] at o'; exact o'
  | rt t => rw [z] at o'; exact o'
  | br env => rw [z] at o'; exact o'
  | ct env => rw [z] at o'; exact o'
  | stuck => rw [z] at o'; exact o'
  | er e env1 =>
    rw [z] at o'
    exact fun A1 σ1 F1 H1 dx R1 x1 => handle_ok h0 hr o' R1 x1
end
section
variable {cl : Cl} {X : Cx} {d : Nat} {W : WX} {s : Sx} {body : List Stmt} {h₀ : ExceptHandler} {hds : List ExceptHandler} {rs : List Hdl} {pos : Pos}
inductive DRow (cl : Cl) (X : Cx) (d : Nat) : List ExceptHandler → List Hdl → Prop
  | nil : DRow cl X d [] []
  | cons {x n : Str} {c : Value} {i : Nat} {tk : Nat → Option Bool} {u : Sx} {b₀ : Stmt} {suite : List Stmt} {np pos' : Pos} {hds : List ExceptHandler} {rs : List Hdl} (hc : Names X x c) (htk : ∀ n b, tk n = some b → PySem.W.exmOne X.K (.ref (cl.f n)) c = some b)
      (hu : ∀ (a : Addr) (oe : Obj) (cls : Value) (dx : Option Addr) (pn : List (Addr × Obj)), Zc cls dx oe → (∃ vs, oe.data = .fields vs) → DB (cl.hold (a, cls, dx)) (X.suite a ((a, oe) :: pn)) d W0 (b₀ :: suite) u) (r : DRow cl X d hds rs)
      (hi : X.N[i]? = some n := by rfl) (hln : X.env.kindOf n = some .local := by rfl) (hp : i = 0 → cl.pin = none := by first | (intro _; assumption) | (intro h; cases h)) : DRow cl X d (.ExceptHandler (some (.Name x np)) (some n) (b₀ :: suite) pos' :: hds) ((tk, i, u) :: rs)
theorem DRow.rows (h : DRow cl X d hds rs) : ∃ l, Row X hds l ∧ RowS X.K cl d l rs := by
  induction h with
  | nil => exact ⟨[], .nil, .nil⟩
  | @cons x n c i tk u b₀ suite np pos' hds rs hc htk hu r hi hln hp ih =>
    obtain ⟨l, h1, h2⟩ := ih
    exact ⟨(c, i, fun a cls dx => cB ⟨X.K, cl.hold (a, cls, dx)⟩ d W0 u) :: l, .cons hc hi hln (fun a oe cls dx pn z f => (hu a oe cls dx pn z f).pss) h1, .cons hp htk (fun a cls dx => ss_cB) h2⟩
theorem ds_tryR (hN : X.N.Nodup) (hb : ∀ (W' : WX) (pn : List (Addr × Obj)) (xe : Value → Shared → Prop), Takes (X.tr pn xe) W' → PassesOwn (model X.prog X.w) X.A X.env xe → DB cl (X.tr pn xe) d W' body s) (hr : DRow cl X d (h₀ :: hds) rs)
    (tkk : Takes X W) (h0 : cl.xh = none) (hs : X.stack = X.env :: X.outer := by rfl) (hf : X.env.frame = some X.env.locals := by rfl) : DS cl X d W (.Try body (h₀ :: hds) [] [] pos) (S.tryR rs s) := by
  obtain ⟨l, h1, h2⟩ := hr.rows
  exact ⟨_, ps_try_row hs hf hN tkk (tb := fun W' => cB ⟨X.K, cl⟩ d W' s) (fun W' pn xe t p => (hb W' pn xe t p).pss) h1, ss_tryR h0 h2 (fun W' => ss_cB)⟩
end
end Py

set_option Elab.async false
set_option linter.all false
set_option maxRecDepth 100000
set_option maxHeartbeats 4000000
namespace Py
open PySem L2 PySem.Spec PyProof.Rows Evl

/-! ### names of the module that hold a text, a whole number -/
section
variable {cl : Cl} {X : Cx} {d : Nat} {W : WX} {x z : Str} {i : Int} {pos : Pos}
theorem de_gstr (h : ∃ t, X.mg x = some (.str z t)) (hg : Gl X x := by rfl) (hd : (x == ("__debug__" : Str)) = false := by decide) : DE cl X d W (.Name x pos) (P.c (.str z)) := by
  obtain ⟨t, h⟩ := h
  exact ⟨_, pe_glob hg h (v := .str z) ⟨t, rfl⟩ hd, fun A env σ F H Q R e o => Out.here o e rfl⟩
theorem de_gint (h : ∃ t, X.mg x = some (.int i t)) (hg : Gl X x := by rfl) (hd : (x == ("__debug__" : Str)) = false := by decide) : DE cl X d W (.Name x pos) (P.c (.int i)) := by
  obtain ⟨t, h⟩ := h
  exact ⟨_, pe_glob hg h (v := .int i) ⟨t, rfl⟩ hd, fun A env σ F H Q R e o => Out.here o e rfl⟩
end
/-! ### texts: in, over their signs -/
def T.isInS (neg : Bool) : T → T → Option T
  | .str i, .str j => some (.bl (if neg then !(!(Builtin.Str.occurrences j i 0 j.length 1).isEmpty) else !(Builtin.Str.occurrences j i 0 j.length 1).isEmpty))
  | _, _ => none
def T.isInT (neg : Bool) (x y : T) : Option T := (T.isIn neg x y).or (T.isInS neg x y)
section
variable {cl : Cl} {X : Cx}
theorem opD_inS : OpD X cl (compareOp .In) (T.isInS false) := ⟨_, op_in_str, fun A F H Q E x y v w ok e rx ry o => by
  cases x <;> (try exact o.elim)
  cases y <;> (try exact o.elim)
  cases rx
  cases ry
  exact ⟨_, _, rfl, rfl, Out.here o e rfl⟩⟩
theorem opD_notInS : OpD X cl (compareOp .NotIn) (T.isInS true) := ⟨_, op_notin_str, fun A F H Q E x y v w ok e rx ry o => by
  cases x <;> (try exact o.elim)
  cases y <;> (try exact o.elim)
  cases rx
  cases ry
  exact ⟨_, _, rfl, rfl, Out.here o e rfl⟩⟩
theorem opD_inT : OpD X cl (compareOp .In) (T.isInT false) := opD_in.or opD_inS fun _ _ => rfl
theorem opD_notInT : OpD X cl (compareOp .NotIn) (T.isInT true) := opD_notIn.or opD_notInS fun _ _ => rfl
end
def T.signs : T → Option (List T)
  | .str z => some (z.cps.toList.map fun c => .str ⟨#[c]⟩)
  | _ => none
def P.signs (p : P.Ex1) : Fv → Res (List T) := fun env => (p env).bind fun t => .of t.signs
section
variable {cl : Cl} {X : Cx} {d : Nat} {W : WX} {e tg : Expr} {p : P.Ex1}
theorem di_str (h : DE cl X d W e p) : DI cl X d W tg e (P.signs p) := by
  obtain ⟨t, a1, a2⟩ := h
  refine ⟨_, pi_str a1, fun A env σ F H Q R e o => a2 A env σ F H _ R e (Outg.bind o fun x v F1 H1 g1 rx o1 => ?_)⟩
  cases x <;> (try exact o1.elim)
  rename_i z
  cases rx
  have o1' : Outg _ A F1 H1 (ItIs _ A) Q (WE W σ) (.ok (z.cps.toList.map fun c => T.str ⟨#[c]⟩)) := o1
  refine ⟨z, rfl, o1' (Its z) F1 H1 (Grow.refl g1.sub) ⟨fun i H e hi => ?_, fun i H e hi => ?_, fun i F2 H2 x H' t e1 e2 ht y => ?_⟩⟩
  · show i < z.cps.size
    simpa using hi
  · show z.cps.size ≤ i
    simpa using hi
  · obtain ⟨e3, c, hc, rfl⟩ := y
    subst e3
    refine ⟨F2, Grow.refl e2, ?_⟩
    rw [List.getElem?_map, Array.getElem?_toList, hc] at ht
    cases ht
    rfl
end
/-! ### dict comprehensions where the name is captured -/
section
variable {X : Cx} {kx vx tg iter : Expr} {ifs : List Expr} {scope : Scope} {own : List (Str × Nat)} {pos : Pos} {wi : TI} {g : TG} {tt : TT} {tk tv : TE}
theorem pe_dcT (hu : X.A.units < cLine) (hc : X.calm = true) (hN : X.N.Nodup) (hi : PI X tg iter wi) (ok : BlkOk X.N X.env.scope scope own)
    (hg : ∀ (s : Shared) (H : Hp) (C : Addr) (cl : List (Str × Addr)) (fp : List Addr), PG (X.blk s H scope (compEnvC scope cl C X.env) fp) tg g) (ht : ∀ (s : Shared) (H : Hp) (C : Addr) (cl : List (Str × Addr)) (fp : List Addr), PTs (X.blk s H scope (compEnvC scope cl C X.env) fp) ifs tt)
    (hk : ∀ (s : Shared) (H : Hp) (C : Addr) (cl : List (Str × Addr)) (fp : List Addr), PE (X.blk s H scope (compEnvC scope cl C X.env) fp) kx tk)
    (he : ∀ (s : Shared) (H : Hp) (C : Addr) (cl : List (Str × Addr)) (fp : List Addr), PE (X.blk s H scope (compEnvC scope cl C X.env) fp) vx tv) (hs : ∀ x, foldedSetIterable iter X.env x = pure x) :
    PE X (.DictComp kx vx [⟨tg, iter, ifs, 0⟩] scope pos) (tDcT wi g tt tk tv (own.map (·.2))) := by
  refine ⟨fun pins s σ H Q I h => ?_⟩
  rw [arm_eval_DictComp]
  refine dcT_core hu hc hN I hi ok hg ht hk he hs h fun D C s' m H' I' q hn f => ⟨m, hn, fun h'' sb => ?_⟩
  obtain ⟨f0, f1, f2, f3, f4, f5⟩ := f
  exact ⟨.ref D, H', I'.turned (t' := s'.toks) (fun b o hb e => (sb.2 b hb).trans e) f0 f1 f3 f4 f5, rfl, q⟩
end
structure DND (cl : Cl) (X : Cx) (d : Nat) (W : WX) (e : Expr) (pn : Fv → Res (List Kt × List T)) : Prop where
  ex : ∃ te, PE X e te ∧ SND ⟨X.K, cl⟩ d W te pn
section
variable {cl : Cl} {X : Cx} {d k i : Nat} {W : WX} {e kx vx iter tg : Expr} {ifs : List Expr} {kp vp : P.Ex1} {b : P.Bx} {own : List (Str × Nat)} {tgT : T → Fv → Option Fv} {pi : Fv → Res (List T)} {pos spos py p' : Pos} {scope : Scope} {x : Str} {pn : Fv → Res (List Kt × List T)}
theorem dnd_dc (hN : X.N.Nodup) (hr : Room k X.A) (hi : DI cl X d W tg iter pi) (ok : BlkOk X.N X.env.scope scope own)
    (hg : ∀ (s : Shared) (H : Hp) (C : Addr) (c : List (Str × Addr)) (fp : List Addr), DC cl (XBlk X scope s H C c fp) d (own.map (·.2)) tg tgT) (ht : ∀ (s : Shared) (H : Hp) (C : Addr) (c : List (Str × Addr)) (fp : List Addr), DTs cl (XBlk X scope s H C c fp) d W0 ifs b)
    (hk : ∀ (s : Shared) (H : Hp) (C : Addr) (c : List (Str × Addr)) (fp : List Addr), DE cl (XBlk X scope s H C c fp) d W0 kx kp) (hv : ∀ (s : Shared) (H : Hp) (C : Addr) (c : List (Str × Addr)) (fp : List Addr), DE cl (XBlk X scope s H C c fp) d W0 vx vp)
    (hc : X.calm = true := by rfl) (hs : ∀ x, foldedSetIterable iter X.env x = pure x := by intro _; rfl) : DND cl X d W (.DictComp kx vx [⟨tg, iter, ifs, 0⟩] scope pos) (P.dcomp (own.map (·.2)) tgT pi b kp vp) :=
  ⟨_, pe_dcT (Room.u0 hr) hc hN hi.pI ok (fun s H C c fp => (hg s H C c fp).pg) (fun s H C c fp => (ht s H C c fp).pt) (fun s H C c fp => (hk s H C c fp).pe) (fun s H C c fp => (hv s H C c fp).pe) hs, snd_dc si_cI sc_cC st_cT se_cE se_cE⟩
theorem DND.de (h : DND cl X d W e pn) : DE cl X d W e (fun env => (pn env).bind fun r => .ok (.dct none r.1 r.2)) := by
  obtain ⟨te, a1, a2⟩ := h
  exact ⟨_, a1, a2.se⟩
theorem ds_newDp (hN : X.N.Nodup) (h : DND cl X d W e pn) (hi : X.N[i]? = some x := by rfl) (hx : Loc X.env.scope x := by first | exact Or.inl rfl | exact Or.inr rfl) (hs : swapsWith e (some (.Name x p')) pos.line X.env = pure false := by rfl)
    (hf : X.fn x = true ∨ X.env.scope.names.lookup x = some .local := by first | exact .inl rfl | exact .inr rfl) (hp : i = 0 → cl.pin = none := by first | (intro _; assumption) | (intro h; cases h)) : DS cl X d W (.Assign [.Name x p'] e pos) (S.newDc i pn) := by
  obtain ⟨t, a1, a2⟩ := h
  exact ⟨_, ps_set hN hi hx a1 hs hf, ss_newDc a2 hp⟩
end
end Py

set_option Elab.async false
set_option linter.all false
set_option maxRecDepth 100000
set_option maxHeartbeats 4000000
namespace Py
open PySem L2 PySem.Spec PyProof.Rows Evl

/-! ### the place of a whole number in a list -/
def ixOf : List Int → Int → Option Nat
  | [], _ => none
  | x :: xs, z => if x = z then some 0 else (ixOf xs z).map (· + 1)
theorem ixOf_some : ∀ {l : List Int} {z : Int} {j : Nat}, ixOf l z = some j → l[j]? = some z ∧ ∀ m, m < j → l[m]? ≠ some z
  | [], z, j, h => by cases h
  | x :: xs, z, j, h => by
    have h' : (if x = z then some 0 else (ixOf xs z).map (· + 1)) = some j := h
    by_cases c : x = z
    · rw [if_pos c] at h'
      cases h'
      exact ⟨by rw [c]; rfl, fun m hm => absurd hm (Nat.not_lt_zero _)⟩
    · rw [if_neg c] at h'
      obtain ⟨k, h1, rfl⟩ := Option.map_eq_some_iff.mp h'
      obtain ⟨a, b⟩ := ixOf_some h1
      refine ⟨a, fun m hm => ?_⟩
      cases m with
      | zero => intro e; cases e; exact c rfl
      | succ m => exact b m (by omega)
def T.indexL (x y : T) : Option T := match x, y with
  | .lst _ ts, .int z => (match B.nums ts with
    | some l => (ixOf l z).map fun j => .int (j : Nat)
    | none => none)
  | .ro ts, .int z => (match B.nums ts with
    | some l => (ixOf l z).map fun j => .int (j : Nat)
    | none => none)
  | _, _ => none
def isLs : T → Bool
  | .lst _ _ => true
  | .ro _ => true
  | _ => false
def P.index (p q : P.Ex1) : P.Ex1 := fun env => (p env).bind fun x => if isLs x = true then (q env).bind fun y => .of (T.indexL x y) else .stuck
section
variable {cl : Cl} {X : Cx} {d : Nat} {W : WX} {o e : Expr} {p q : P.Ex1} {apos cpos : Pos}
theorem index_end {A : Al} {F H : Hp} {E : XK} {Q : VK} {a : Addr} {vs : List V} {ts : List T} {l : List Int} {z : Int} (hs : SqL X.K H a vs) (r : reps ⟨X.K, cl⟩ A F ts vs) (hn : B.nums ts = some l) (ex : Ex F H) (o : Out ⟨X.K, cl⟩ A F H Q E (.of ((ixOf l z).map fun j => T.int (j : Nat)))) :
    rIndex X.K (.ref a) [.int z] H Q := by
  have ev := ints_of hn r
  subst ev
  cases h : ixOf l z with
  | none => rw [h] at o; exact o.elim
  | some j =>
    rw [h] at o
    obtain ⟨h1, h2⟩ := ixOf_some h
    refine ⟨a, l.map V.int, .int z, j, .int z, rfl, rfl, hs, rfl, ?_, by rw [List.getElem?_map, h1]; rfl, ?_, fun m z' hm hz => ?_, Out.here (t := .int (j : Nat)) o ex rfl⟩
    · rw [List.all_map]
      exact List.all_eq_true.mpr fun _ _ => rfl
    · show (z == z) = true
      exact beq_self_eq_true z
    · rw [List.getElem?_map] at hz
      cases k : l[m]? with
      | none => rw [k] at hz; cases hz
      | some w =>
        rw [k] at hz
        cases hz
        show (w == z) = false
        exact beq_eq_false_iff_ne.mpr fun c => h2 m hm (by rw [k, c])
theorem de_indexL (ho : DE cl X d W o p) (he : DE cl X d W e q)
    (hbase : attributeBase o "index" X.env (eval o X.env) = eval o X.env := by rfl)
    (hfew : ((backTo cpos (starEach [e] X.env)).all (fun x => !x.1) && (backToKw cpos (keywordEach [] X.env)).all (fun x => x.1.isSome) && decide ([e].length + ([] : List Keyword).length + (if ([] : List Keyword).isEmpty then 0 else 1) < 30)) = true := by rfl)
    (hline : (apos.endLine == cpos.line) = true := by rfl) (hs : starEach [e] X.env = (false, eval e X.env) :: starEach [] X.env := by rfl) (hplain : (backTo cpos (starEach [] X.env)).any (·.1) = false := by rfl) :
    DE cl X d W (.Call (.Attribute o "index" apos) [e] [] cpos) (P.index p q) := by
  obtain ⟨t1, a1, a2⟩ := ho
  obtain ⟨t2, b1, b2⟩ := he
  refine ⟨_, pe_bm PySem.F.plainAttrs_list PySem.F.slot_list_index PySem.F.type_list_index mt_index a1 (pa_cons b1 pa_nil hs) hbase hfew hline hs hplain, fun A env σ F H Q R ex o => a2 A env σ F H _ R ex (Outg.bind o fun x v F1 H1 g1 rx o1 => ?_)⟩
  cases x <;> (try exact o1.elim)
  · rename_i g ts
    obtain ⟨a, vs, rfl, h1, h2, h3⟩ := rx
    have o1' : Out _ A F1 H1 Q (WE W σ) ((q env).bind fun y => .of (T.indexL (.lst g ts) y)) := o1
    refine ⟨.inl ⟨rfl, vs, SqL.of (g1.sub _ _ h1)⟩, b2 A env σ F1 H1 _ (R.mono g1.ex) g1.sub (Outg.bind o1' fun y w F2 H2 g2 ry o2 => ?_)⟩
    cases y <;> (try exact o2.elim)
    cases ry
    have o3 : Out _ A F2 H2 Q (WE W σ) (.of (match B.nums ts with
      | some l => (ixOf l _).map fun j => T.int (j : Nat)
      | none => none)) := o2
    cases z : B.nums ts with
    | none => rw [z] at o3; exact o3.elim
    | some l =>
      rw [z] at o3
      exact index_end (SqL.of (g2.sub _ _ (g2.ex _ _ h1))) (h3.mono g2.ex) z g2.sub o3
  · rename_i ts
    obtain ⟨a, vs, rfl, h1, h3⟩ := rx
    have o1' : Out _ A F1 H1 Q (WE W σ) ((q env).bind fun y => .of (T.indexL (.ro ts) y)) := o1
    refine ⟨.inl ⟨rfl, vs, ex_l g1.sub h1⟩, b2 A env σ F1 H1 _ (R.mono g1.ex) g1.sub (Outg.bind o1' fun y w F2 H2 g2 ry o2 => ?_)⟩
    cases y <;> (try exact o2.elim)
    cases ry
    have o3 : Out _ A F2 H2 Q (WE W σ) (.of (match B.nums ts with
      | some l => (ixOf l _).map fun j => T.int (j : Nat)
      | none => none)) := o2
    cases z : B.nums ts with
    | none => rw [z] at o3; exact o3.elim
    | some l =>
      rw [z] at o3
      exact index_end (ex_l (g2.ex.trans g2.sub) h1) (h3.mono g2.ex) z g2.sub o3
/-! ### the least of a list -/
end
def lmin : List Int → Option Int
  | [] => none
  | x :: xs => match lmin xs with
    | some m => some (min x m)
    | none => some x
theorem lmin_of : ∀ {l : List Int} {m : Int}, lmin l = some m → 0 < l.length ∧ m ∈ l ∧ ∀ y ∈ l, m ≤ y
  | [], m, h => by cases h
  | x :: xs, m, h => by
    have h' : (match lmin xs with
      | some m => some (min x m)
      | none => some x) = some m := h
    refine ⟨Nat.succ_pos _, ?_⟩
    cases z : lmin xs with
    | some k =>
      rw [z] at h'
      cases h'
      obtain ⟨_, h1, h2⟩ := lmin_of z
      refine ⟨?_, fun y hy => ?_⟩
      · rcases Int.le_total x k with c | c
        · rw [Int.min_eq_left c]; exact List.mem_cons_self
        · rw [Int.min_eq_right c]; exact List.mem_cons_of_mem _ h1
      · rcases List.mem_cons.mp hy with e | e
        · rw [e]; exact Int.min_le_left _ _
        · exact Int.le_trans (Int.min_le_right _ _) (h2 y e)
    | none =>
      rw [z] at h'
      cases h'
      cases xs with
      | nil => exact ⟨List.mem_cons_self, fun y hy => by rw [List.mem_singleton.mp hy]; exact Int.le_refl _⟩
      | cons w ws =>
        have e : lmin (w :: ws) = (match lmin ws with
          | some m => some (min w m)
          | none => some w) := rfl
        rw [e] at z
        cases k : lmin ws <;> rw [k] at z <;> cases z
def B.minL : List T → Option T
  | [.lst _ ts] => match B.nums ts with
    | some l => (lmin l).map .int
    | none => none
  | _ => none
section
variable {cl : Cl} {X : Cx}
theorem crd_minL (hc : X.calm = true) : CRd cl X (.builtin "min") B.minL := ⟨_, cr_min hc, fun A F H Q E ts vs ok e r o => by
  unfold B.minL at o
  split at o
  · rename_i g us
    obtain ⟨v, rfl, a, ws, rfl, h1, h2, h3⟩ := reps1 r
    cases z : B.nums us with
    | none => simp only [z] at o; exact o.elim
    | some l =>
      simp only [z] at o
      have ew := ints_of z h3
      subst ew
      cases k : lmin l with
      | none => rw [k] at o; exact o.elim
      | some m =>
        rw [k] at o
        obtain ⟨a1, a2, a3⟩ := lmin_of k
        refine ⟨a, l, rfl, SqL.of (e _ _ h1), a1, fun m' b1 b2 => ?_⟩
        have em : m' = m := Int.le_antisymm (b2 m a2) (a3 m' b1)
        rw [em]
        exact Out.here (t := .int m) o e rfl
  · exact o.elim⟩
end
end Py

set_option Elab.async false
set_option linter.all false
set_option maxRecDepth 100000
set_option maxHeartbeats 4000000
namespace Py
open PySem L2 PySem.Spec PyProof.Rows Evl

/-! ### bodies of generator defs: what is out, the frame -/
inductive GR where
  | nx (ys : List T) (env : Fv)
  | rt (ys : List T)
  | br (ys : List T) (env : Fv)
  | ct (ys : List T) (env : Fv)
  | stuck
abbrev Gx := List T → Fv → GR
namespace Yl
def plain (s : Sx) : Gx := fun ys env => match s env with
  | .nx env => .nx ys env
  | .br env => .br ys env
  | .ct env => .ct ys env
  | .rt .non => .rt ys
  | _ => .stuck
def skip : Gx := fun ys env => .nx ys env
def seq (g h : Gx) : Gx := fun ys env => match g ys env with
  | .nx ys env => h ys env
  | r => r
def yield (p : P.Ex1) : Gx := fun ys env => if ys.length < sizeLine then (match p env with
  | .ok t => if flat t = true then .nx (ys ++ [t]) env else .stuck
  | _ => .stuck) else .stuck
def while_ (b : P.Bx) (g : Gx) : Nat → Gx
  | 0 => fun _ _ => .stuck
  | n + 1 => fun ys env => match b env with
    | .ok true => (match g ys env with
      | .nx ys env => while_ b g n ys env
      | .ct ys env => while_ b g n ys env
      | .br ys env => .nx ys env
      | r => r)
    | .ok false => .nx ys env
    | _ => .stuck
end Yl
section
variable {G : Ge} {d : Nat} {W : WX} {A0 A : Al} {F0 H0 F H : Hp} {env : Fv} {σ : L2.St} {te : TE} {p : P.Ex1} {tt : TT} {b : P.Bx} {t u : TGn} {g h : Gx}
def OutGn (G : Ge) (d : Nat) (A0 : Al) (F0 H0 : Hp) (D : GEnds) : GR → Prop
  | .nx ys env => ∀ us A σ F H, T.fvs ys = some us → Rel G d A0 F0 H0 A env σ F H → D.nx us σ H
  | .rt ys => ∀ us F H, T.fvs ys = some us → Grow F0 H0 F H → D.rt us .non H
  | .br ys env => ∀ us A σ F H, T.fvs ys = some us → Rel G d A0 F0 H0 A env σ F H → D.bk us σ H
  | .ct ys env => ∀ us A σ F H, T.fvs ys = some us → Rel G d A0 F0 H0 A env σ F H → D.ct us σ H
  | .stuck => False
def SSG (G : Ge) (d : Nat) (t : TGn) (g : Gx) : Prop := ∀ A0 F0 H0 A env σ F H D ys us, Rel G d A0 F0 H0 A env σ F H → T.fvs ys = some us → OutGn G d A0 F0 H0 D (g ys env) → t D us σ H
theorem ssg_plain {ts : TS} {s : Sx} (h : SS G d W ts s) : SSG G d (tPlain ts) (Yl.plain s) := fun A0 F0 H0 A env σ F H D ys us R hu o => by
  refine h A0 F0 H0 A env σ F H (D.at us) R ?_
  have o' : OutGn G d A0 F0 H0 D (match s env with
    | .nx env => .nx ys env
    | .br env => .br ys env
    | .ct env => .ct ys env
    | .rt .non => .rt ys
    | _ => .stuck) := o
  cases z : s env with
  | nx e => rw [z] at o'; exact fun A σ F H R => o' us A σ F H hu R
  | br e => rw [z] at o'; exact fun A σ F H R => o' us A σ F H hu R
  | ct e => rw [z] at o'; exact fun A σ F H R => o' us A σ F H hu R
  | er x e => rw [z] at o'; exact o'.elim
  | stuck => rw [z] at o'; exact o'.elim
  | rt t =>
    rw [z] at o'
    cases t <;> (try exact o'.elim)
    intro v F H g r
    cases r
    exact o' us F H hu g
theorem ssg_nil : SSG G d tG0 Yl.skip := fun A0 F0 H0 A env σ F H D ys us R hu o => o us A σ F H hu R
theorem ssg_cons (hg : SSG G d t g) (hh : SSG G d u h) : SSG G d (tGThen t u) (Yl.seq g h) := fun A0 F0 H0 A env σ F H D ys us R hu o => by
  refine hg A0 F0 H0 A env σ F H _ ys us R hu ?_
  have o' : OutGn G d A0 F0 H0 D (match g ys env with
    | .nx ys env => h ys env
    | r => r) := o
  cases z : g ys env with
  | nx ys1 e1 => rw [z] at o'; exact fun us1 A1 σ1 F1 H1 hu1 R1 => hh A0 F0 H0 A1 e1 σ1 F1 H1 D ys1 us1 R1 hu1 o'
  | rt ys1 => rw [z] at o'; exact o'
  | br ys1 e1 => rw [z] at o'; exact o'
  | ct ys1 e1 => rw [z] at o'; exact o'
  | stuck => rw [z] at o'; exact o'.elim
theorem fvs_len : ∀ {ys : List T} {us : List V}, T.fvs ys = some us → us.length = ys.length
  | [], us, h => by cases h; rfl
  | t :: ts, us, h => by
    have h' : (match T.fv t, T.fvs ts with | some v, some vs => some (v :: vs) | _, _ => none) = some us := h
    cases q : T.fv t with
    | none => rw [q] at h'; cases h'
    | some v =>
      cases q2 : T.fvs ts with
      | none => rw [q, q2] at h'; cases h'
      | some vs => rw [q, q2] at h'; cases h'; rw [List.length_cons, List.length_cons, fvs_len q2]
theorem fvs_snoc : ∀ {ys : List T} {us : List V} {t : T} {v : V}, T.fvs ys = some us → T.fv t = some v → T.fvs (ys ++ [t]) = some (us ++ [v])
  | [], us, t, v, h, k => by
    cases h
    show (match T.fv t, T.fvs [] with | some v, some vs => some (v :: vs) | _, _ => none) = _
    rw [k]
    rfl
  | y :: ys, us, t, v, h, k => by
    have h' : (match T.fv y, T.fvs ys with | some v, some vs => some (v :: vs) | _, _ => none) = some us := h
    cases q : T.fv y with
    | none => rw [q] at h'; cases h'
    | some w =>
      cases q2 : T.fvs ys with
      | none => rw [q, q2] at h'; cases h'
      | some vs =>
        rw [q, q2] at h'
        cases h'
        show (match T.fv y, T.fvs (ys ++ [t]) with | some v, some vs => some (v :: vs) | _, _ => none) = _
        rw [q, fvs_snoc q2 k]
        rfl
theorem fv_flat {t : T} (h : flat t = true) : ∃ v, T.fv t = some v := by
  cases t <;> (try cases h)
  · exact ⟨_, rfl⟩
  · exact ⟨_, rfl⟩
  · exact ⟨_, rfl⟩
  · exact ⟨_, rfl⟩
theorem ssg_yield (he : SE G d W te p) : SSG G d (tGYield te) (Yl.yield p) := fun A0 F0 H0 A env σ F H D ys us R hu o => by
  have o' : OutGn G d A0 F0 H0 D (if ys.length < sizeLine then (match p env with
    | .ok t => if flat t = true then .nx (ys ++ [t]) env else .stuck
    | _ => .stuck) else .stuck) := o
  by_cases c : ys.length < sizeLine
  · rw [if_pos c] at o'
    refine ⟨by rw [fvs_len hu]; exact c, he A env σ _ H _ R.re R.subP ?_⟩
    cases z : p env with
    | er e => rw [z] at o'; exact o'.elim
    | stuck => rw [z] at o'; exact o'.elim
    | ok x =>
      rw [z] at o'
      intro v F1 H1 gr r
      have o2 : OutGn G d A0 F0 H0 D (if flat x = true then .nx (ys ++ [x]) env else .stuck) := o'
      by_cases cf : flat x = true
      · rw [if_pos cf] at o2
        obtain ⟨w, hw⟩ := fv_flat cf
        obtain ⟨e1, _⟩ := fv_of r hw
        subst e1
        exact o2 _ A σ _ H1 (fvs_snoc hu hw) (R.grow (R.low gr))
      · rw [if_neg cf] at o2
        exact o2.elim
  · rw [if_neg c] at o'
    exact o'.elim
theorem ssg_while {n : Nat} (ht : ST G d W tt b) (hb : SSG G d t g) : SSG G d (tGWhile tt t) (Yl.while_ b g n) := fun A0 F0 H0 A env σ F H D ys us R hu o => by
  refine ⟨fun n us σ H => ∃ A env F ys, T.fvs ys = some us ∧ Rel G d A0 F0 H0 A env σ F H ∧ OutGn G d A0 F0 H0 D (Yl.while_ b g n ys env), ⟨n, A, env, F, ys, hu, R, o⟩, ?_⟩
  rintro n us σ H ⟨A, env, F, ys, hu, R, o⟩
  cases n with
  | zero => exact o.elim
  | succ n =>
    have o' : OutGn G d A0 F0 H0 D (match b env with
      | .ok true => (match g ys env with
        | .nx ys env => Yl.while_ b g n ys env
        | .ct ys env => Yl.while_ b g n ys env
        | .br ys env => .nx ys env
        | r => r)
      | .ok false => .nx ys env
      | _ => .stuck) := o
    refine ht A env σ _ H _ R.re R.subP ?_
    cases z : b env with
    | er e => rw [z] at o'; exact o'.elim
    | stuck => rw [z] at o'; exact o'.elim
    | ok bb =>
      rw [z] at o'
      intro c F1 H1 gr eb
      subst eb
      have R1 := R.grow (R.low gr)
      cases bb with
      | false => exact o' us A σ _ H1 hu R1
      | true =>
        show ∃ N : List V → L2.St → Hp → Prop, (∀ ys' σ' H', N ys' σ' H' → ∃ m', m' < n + 1 ∧ _) ∧ _
        refine ⟨fun us σ H => ∃ A env F ys, T.fvs ys = some us ∧ Rel G d A0 F0 H0 A env σ F H ∧ OutGn G d A0 F0 H0 D (Yl.while_ b g n ys env), fun us' σ' H' p => ⟨n, Nat.lt_succ_self n, p⟩, hb A0 F0 H0 A env σ _ H1 _ ys us R1 hu ?_⟩
        have o2 : OutGn G d A0 F0 H0 D (match g ys env with
          | .nx ys env => Yl.while_ b g n ys env
          | .ct ys env => Yl.while_ b g n ys env
          | .br ys env => .nx ys env
          | r => r) := o'
        cases z2 : g ys env with
        | nx ys1 e1 => simp only [z2] at o2; exact fun us1 A1 σ1 F2 H2 hu1 R2 => ⟨A1, e1, F2, ys1, hu1, R2, o2⟩
        | ct ys1 e1 => simp only [z2] at o2; exact fun us1 A1 σ1 F2 H2 hu1 R2 => ⟨A1, e1, F2, ys1, hu1, R2, o2⟩
        | br ys1 e1 => simp only [z2] at o2; exact o2
        | rt ys1 => simp only [z2] at o2; exact o2
        | stuck => simp only [z2] at o2; exact o2
end
/-! ### derivations -/
structure DY (cl : Cl) (X : Cx) (d : Nat) (st : Stmt) (g : Gx) : Prop where
  ex : ∃ t, GS X st t ∧ SSG ⟨X.K, cl⟩ d t g
structure DYs (cl : Cl) (X : Cx) (d : Nat) (st : List Stmt) (g : Gx) : Prop where
  ex : ∃ t, GSs X st t ∧ SSG ⟨X.K, cl⟩ d t g
section
variable {cl : Cl} {X : Cx} {d : Nat} {W : WX} {st : Stmt} {rest : List Stmt} {s : Sx} {g h : Gx} {e test : Expr} {p : P.Ex1} {b : P.Bx} {yp pos : Pos}
theorem dy_plain (k : DS cl X d W st s) : DY cl X d st (Yl.plain s) := by
  obtain ⟨t, a1, a2⟩ := k
  exact ⟨_, gs_ps a1, ssg_plain a2⟩
theorem dy_yield (he : DE cl X d W e p) (hco : X.env.scope.isCoroutine = false := by rfl) (hi : interactive X.env = false := by rfl) : DY cl X d (.Expr (.Yield (some e) yp) pos) (Yl.yield p) := by
  obtain ⟨t, a1, a2⟩ := he
  exact ⟨_, gs_yield a1 hco hi, ssg_yield a2⟩
theorem dy_while (n : Nat) (hp : PassesOwn (model X.prog X.w) X.A X.env X.xe) (hc : DT cl X d W test b) (hb : DYs cl X d rest g) : DY cl X d (.While test rest [] pos) (Yl.while_ b g n) := by
  obtain ⟨t, a1, a2⟩ := hc
  obtain ⟨u, b1, b2⟩ := hb
  exact ⟨_, gs_while hp a1 b1, ssg_while a2 b2⟩
theorem dys_nil : DYs cl X d [] Yl.skip := ⟨_, gss_nil, ssg_nil⟩
theorem dys_cons (a : DY cl X d st g) (k : DYs cl X d rest h) : DYs cl X d (st :: rest) (Yl.seq g h) := by
  obtain ⟨t, a1, a2⟩ := a
  obtain ⟨u, b1, b2⟩ := k
  exact ⟨_, gss_cons a1 b1, ssg_cons a2 b2⟩
end
/-! ### generator defs and list(g(..)) -/
def runG (n : Nat) (g : Gx) (ts : List T) : Res (List T) := match g [] (ent n ts) with
  | .nx ys _ => .ok ys
  | .rt ys => .ok ys
  | _ => .stuck
def OutL (F H : Hp) (cont : List V → Hp → Prop) : Res (List T) → Prop
  | .ok ys => ∀ us F1 H1, T.fvs ys = some us → Grow F H F1 H1 → cont us H1
  | _ => False
def spG (G : Ge) (n : Nat) (f : Nat → List T → Res (List T)) : SpG := fun vs H cont _ => vs.length = n ∧ ∃ d A F ts, AOk A F ∧ (∀ g a, A g = some a → g.1 < d) ∧ Ex F H ∧ reps G A F ts vs ∧ OutL F H cont (f d ts)
structure Gok (cl : Cl) (P : Program) (w : World) (K : PySem.W.Frag) (mg : Str → Option Value) (base : Heap) (x : Str) (k n : Nat) (f : Nat → List T → Res (List T)) : Prop where
  ex : ∃ fa fd ps, GFn P w K mg base k fa fd ps (spG ⟨K, cl⟩ n f) ∧ Binds K fd ps [] ∧ PySem.W.keepIn K (.ref fa) = true ∧ mg x = some (.ref fa)
abbrev GOf (P : Program) (w : World) (K : PySem.W.Frag) (mg : Str → Option Value) (base : Heap) (N : List Str) (qual : Str) (sc : Scope) (f : Addr) (cd : Value) (A : Around) (outer : List Env) (s : Shared) (H : Hp) (E : XK) (pn : List (Addr × Obj)) : Cx := gcxOf P w K mg base N qual sc f cd A outer s H E pn
theorem gok_of {cl : Cl} {P : Program} {w : World} {K : PySem.W.Frag} {mg : Str → Option Value} {base : Heap} {x : Str} {st : Stmt} {f : Addr} {fd : FuncData} {N ps : List Str} {k n : Nat} {fT : Nat → List T → Res (List T)} {gT : Nat → Gx}
    (F : FnP K x st f fd) (S : GScope N ps (defScope st)) (hn : n = ps.length) (hle : ps.length ≤ N.length) (p0 : cl.pin = none) (hm : mg x = some (.ref f)) (hf : ∀ d ts, fT d ts = runG N.length (gT d) ts)
    (hb : ∀ (kV doc pm : Value) (an : Option Addr) (cdv ct : Value) (us : List Value), us.length = ps.length → bindArgs (PySem.W.fnOf x x (defArgs st) (defBody st) (defScope st) .none kV doc pm an cdv ct) ⟨us, []⟩ = pure (ps.zip us))
    (h : ∀ (d : Nat) (cdv : Value) (A : Around) (outer : List Env) (s : Shared) (H : Hp) (E : XK) (pn : List (Addr × Obj)), Room k (A.deeper (envOfC x (defScope st) s.heap.objs.size f cdv)) → DYs cl (GOf P w K mg base N x (defScope st) f cdv A outer s H E pn) d (defBody st) (gT d)) :
    Gok cl P w K mg base x (k + 1) n fT := by
  refine ⟨f, fd, ps, ?_, F.bindsN hb, F.kp, hm⟩
  subst hn
  obtain ⟨oc, od, dV, kV, doc, pm, an, cdv, ct, osl, rfl, lk, hcd, _, _⟩ := F.ex
  refine gfn_of lk hcd S (fun vs H Q E h => h.1) fun A outer s H vs Q E pn hr hsp => ?_
  obtain ⟨hl, d, A0, F0, ts, ok, dep, e, r, o⟩ := hsp
  obtain ⟨t, a1, a2⟩ := h d cdv A outer s H E pn hr
  refine ⟨t, a1, a2 A0 F0 H A0 (ent N.length ts) (L2.start N vs) F0 H _ [] [] (rel_start (G := ⟨K, cl⟩) ok dep e r (by rw [← r.length, hl]; exact hle) p0) rfl ?_⟩
  rw [hf] at o
  unfold runG at o
  cases z : gT d [] (ent N.length ts) with
  | nx ys env => rw [z] at o; exact fun us A σ F H hu R => o us F H hu R.growF
  | rt ys => rw [z] at o; exact fun us F H hu g => ⟨rfl, o us F H hu g⟩
  | br ys env => rw [z] at o; exact o.elim
  | ct ys env => rw [z] at o; exact o.elim
  | stuck => rw [z] at o; exact o.elim
def lstG : Res (List T) → Res T
  | .ok ys => .ok (.lst none ys)
  | _ => .stuck
def P.listG (f : List T → Res (List T)) (a : P.Ax) : P.Ex1 := fun env => (a env).bind fun xs => lstG (f xs)
section
variable {cl : Cl} {X : Cx} {d k n : Nat} {W : WX} {e : Expr} {es : List Expr} {a : P.Ax} {x : Str} {f : Nat → List T → Res (List T)} {p p1 pos pos' : Pos}
theorem reps_fvs {G : Ge} {A : Al} {F : Hp} : ∀ {ys : List T} {us : List V}, T.fvs ys = some us → reps G A F ys us
  | [], us, h => by cases h; rfl
  | t :: ts, us, h => by
    have h' : (match T.fv t, T.fvs ts with | some v, some vs => some (v :: vs) | _, _ => none) = some us := h
    cases q : T.fv t with
    | none => rw [q] at h'; cases h'
    | some v =>
      cases q2 : T.fvs ts with
      | none => rw [q, q2] at h'; cases h'
      | some vs =>
        rw [q, q2] at h'
        cases h'
        refine ⟨v, vs, rfl, ?_, reps_fvs q2⟩
        cases t <;> cases q <;> rfl
theorem passesNo {CX : CXT} (h : ∀ st H s e s', CX st H s (fun _ _ _ => False) e s' → False) : Passes CX X (fun _ _ _ => False) := fun _ _ _ _ _ _ _ c => (h _ _ _ _ _ c).elim
theorem de_listG (D : Gok cl X.prog X.w X.K X.mg X.base x k n f) (hr : Room (k + 3) X.A) (hl : X.mg "list" = none) (ha : DA cl X d W (e :: es) a) (hn : ∀ env xs, a env = .ok xs → xs.length = n) (hg : Gl X x := by rfl) (hg2 : Gl X "list" := by rfl) (hdb : (x == ("__debug__" : Str)) = false := by decide)
    (he : starEach (e :: es) X.env = (false, eval e X.env) :: starEach es X.env := by rfl) (hpl : (backTo pos' (starEach es X.env)).any (·.1) = false := by rfl)
    (he2 : starEach [.Call (.Name x p1) (e :: es) [] pos'] X.env = (false, eval (.Call (.Name x p1) (e :: es) [] pos') X.env) :: starEach [] X.env := by rfl) :
    DE cl X d W (.Call (.Name "list" p) [.Call (.Name x p1) (e :: es) [] pos'] [] pos) (P.listG (f (d + 1)) a) := by
  obtain ⟨fa, fd, ps, F, hb, hk, hm⟩ := D
  obtain ⟨t, c1, c2⟩ := ha
  refine ⟨_, pe_listG (E := fun _ _ _ => False) (pgen_call (dvs := []) (ds := []) F (hr.mono (by omega)) hg hm hk hb .nil c1 hdb he hpl) (passesNo fun st H s e s' c => ?_) (fun _ _ _ z => z.elim) hr hg2 hl (by decide +kernel) (by decide) (by decide) he2, fun A env σ F0 H Q R ex o => ?_⟩
  · obtain ⟨_, _, _, _, _, _, _, _, _, _, _, _, z⟩ := c
    exact z
  · cases z : a env with
    | stuck =>
      have o' : Out _ A F0 H Q (WE W σ) ((a env).bind fun xs => lstG (f (d + 1) xs)) := o
      rw [z] at o'
      exact o'.elim
    | er e =>
      have o' : Out _ A F0 H Q (WE W σ) ((a env).bind fun xs => lstG (f (d + 1) xs)) := o
      refine c2 A env σ F0 H _ R ex ?_
      rw [z] at o' ⊢
      exact o'
    | ok xs =>
      have hlen := hn env xs z
      refine c2 A env σ F0 H _ R ex ?_
      have o' : Out _ A F0 H Q (WE W σ) ((a env).bind fun xs => lstG (f (d + 1) xs)) := o
      rw [z, Res.bind_ok] at o'
      rw [z]
      intro vs F1 H1 g1 rs
      rw [List.append_nil]
      refine ⟨by rw [rs.length, hlen], d + 1, A, F1, xs, R.ok.mono g1.ex, fun g b z => Nat.lt_succ_of_le (R.dep g b z), g1.sub, rs, ?_⟩
      have o1 := Outg.step g1 o'
      cases z2 : f (d + 1) xs with
      | stuck => rw [z2] at o1; exact o1.elim
      | er e => rw [z2] at o1; exact o1.elim
      | ok ys =>
        rw [z2] at o1
        intro us F2 H2 hu g2
        exact fun q hq => Out.lst (Outg.step g2 o1) ((R.ok.mono g1.ex).mono g2.ex) g2.sub (reps_fvs hu) q hq
end
end Py

set_option Elab.async false
set_option linter.all false
set_option maxRecDepth 100000
set_option maxHeartbeats 4000000
namespace Py
open PySem L2 PySem.Spec PyProof.Rows Evl

/-! ### len of an instance of an own class -/
def B.lenM (c : Nat) (f : List T → Res T) : List T → Option T
  | [.ins g c1 ns ts] => if c1 = c ∧ T.fr (.ins g c1 ns ts) = true then (match f [.ins g c1 ns ts] with
    | .ok (.int n) => if 0 ≤ n ∧ n < 2 ^ 62 then some (.int n) else none
    | _ => none) else none
  | _ => none
def B.lenA (c : Nat) (f : List T → Res T) (ts : List T) : Option T := (B.len ts).or (B.lenM c f ts)
theorem CRd.or {cl : Cl} {X : Cx} {v : Value} {f g : List T → Option T} (h : CRd cl X v f) (k : CRd cl X v g) : CRd cl X v fun ts => (f ts).or (g ts) := by
  obtain ⟨r, a1, a2⟩ := h
  obtain ⟨r2, b1, b2⟩ := k
  refine ⟨fun xs H Q => r xs H Q ∨ r2 xs H Q, fun pins s σ H xs us Q I rv h => h.elim (fun z => a1 pins s σ H xs us Q I rv z) fun z => b1 pins s σ H xs us Q I rv z, fun A F H Q E ts vs ok e r o => ?_⟩
  have o' : Out ⟨X.K, cl⟩ A F H Q E (.of ((f ts).or (g ts))) := o
  cases q : f ts with
  | some t =>
    rw [q] at o'
    exact .inl (a2 A F H Q E ts vs ok e r (by rw [q]; exact o'))
  | none =>
    rw [q, Option.none_or] at o'
    exact .inr (b2 A F H Q E ts vs ok e r o')
section
variable {cl : Cl} {X : Cx} {c k : Nat} {f : Nat → List T → Res T} {C fa : Addr} {fd : FuncData} {ps : List Str} {sp : Sp}
theorem call_lenM (M : PySem.W.findIn X.K (.ref C) "__len__" = some (some (.ref fa))) (hf : PySem.W.isFn X.K (.ref fa) = true) (F : FnOk X.prog X.w X.K X.mg X.base (L2.CX X.prog X.w) k fa fd ps sp) (hr : Room (k + 1) X.A) (hb : Binds X.K fd ps []) :
    CallR X (.builtin "len") (fun xs H Q => ∃ a dx fs, xs = [.ref a] ∧ H a = some (.ins C dx fs) ∧ sp [.ref a] H (fun v H3 => ∃ n : Int, v = .int n ∧ 0 ≤ n ∧ n < 2 ^ 62 ∧ Q (.int n) H3) (fun _ _ _ => False)) := by
  intro pins s σ H xs us Q I r h
  obtain ⟨a, dx, fs, rfl, ha, h⟩ := h
  obtain ⟨u, rfl, ru⟩ := vals1 r
  cases (show u = Value.ref a from ru)
  obtain ⟨mA, J, _⟩ := ins_get I.hok ha
  obtain ⟨od, J, _⟩ := J.look
  obtain ⟨m, hF⟩ := I.fr
  refine PySem.W.len_K hF I.ok.mod.kin J M hf ?_
  have hl := F.len _ _ _ _ h
  have r2 : Vals [V.ref a] [Value.ref a] := .cons rfl .nil
  refine wpAny_call (codeAny_mono (F.run X.A.in1 X.stack s H ⟨[.ref a], []⟩ [.ref a] [.ref a] _ _ hr.in1 I.env0.in1 (by
    have := hb s [.ref a] I.kIn (by simpa using hl)
    simpa using this) r2 h) fun r s' hq => ?_)
  cases r with
  | error e =>
    obtain ⟨_, _, _, _, _, _, _, _, _, _, _, _, z⟩ := hq
    exact z.elim
  | ok fl =>
    cases fl with
    | ret w =>
      obtain ⟨z, H', I', rz, n, ez, n0, n1, ex⟩ := I.after hq
      subst ez
      obtain ⟨t, rfl⟩ := rz
      exact ⟨⟨n0, by omega⟩, .int n, H', I'.tok _, ⟨_, rfl⟩, ex⟩
    | next => exact False.elim hq
    | brk => exact False.elim hq
    | cont => exact False.elim hq
theorem crd_lenM (D : Mok cl X.prog X.w X.K X.mg X.base "__len__" c k 1 f) (hr : Room (k + 1) X.A) : CRd cl X (.builtin "len") (B.lenM c (f 0)) := by
  obtain ⟨fa, fd, ps, M, F, hb⟩ := D
  refine ⟨_, call_lenM M.at_ M.fn F hr hb, fun A F H Q E ts vs ok e r o => ?_⟩
  unfold B.lenM at o
  split at o
  · rename_i g c1 ns ts
    split at o
    · rename_i hc
      obtain ⟨hc1, fx⟩ := hc
      subst hc1
      obtain ⟨v, rfl, rx⟩ := reps1 r
      have rx' := rep.noA fx rx
      obtain ⟨a, dx, ws, rfl, h2, h3, h4, h5⟩ := rx
      refine ⟨a, dx, _, rfl, e _ _ h2, rfl, 0, fun _ => none, F, [_], ⟨fun _ _ _ z => (nomatch z), fun _ _ z => (nomatch z)⟩, fun _ _ z => (nomatch z), e, ⟨_, _, rfl, rx', rfl⟩, ?_⟩
      split at o
      · rename_i n hf
        split at o
        · rename_i hn
          rw [hf]
          intro v F1 H1 gr rv
          cases (show v = V.int n from rv)
          exact ⟨n, rfl, hn.1, hn.2, o _ F1 H1 gr rfl⟩
        · exact o.elim
      · exact o.elim
    · exact o.elim
  · exact o.elim
theorem crd_lenA (D : Mok cl X.prog X.w X.K X.mg X.base "__len__" c k 1 f) (hr : Room (k + 1) X.A) : CRd cl X (.builtin "len") (B.lenA c (f 0)) := CRd.or crd_len (crd_lenM D hr)
end
end Py

set_option Elab.async false
set_option linter.all false
set_option maxRecDepth 100000
set_option maxHeartbeats 4000000
namespace Py
open PySem L2 PySem.Spec PyProof.Rows Evl

/-! ### unpacking lists and tuples -/
namespace S
def tSeq (gs : List (T → Fv → Option Fv)) : T → Fv → Option Fv := fun t env => match t with
  | .tup ts => tNames gs ts env
  | .lst _ ts => tNames gs ts env
  | _ => none
end S
def gOr (g h : TG) : TG := fun v σ H Q => g v σ H Q ∨ h v σ H Q
section
variable {cl : Cl} {X : Cx} {G : Ge} {d : Nat} {e : Expr} {es : List Expr} {pos : Pos} {g h : TG} {tgs : List (T → Fv → Option Fv)} {own : List Nat}
theorem pg_or (hg : PG X e g) (hh : PG X e h) : PG X e (gOr g h) :=
  ⟨fun pins s σ H v u Q I r z => z.elim (fun z => hg.run pins s σ H v u Q I r z) fun z => hh.run pins s σ H v u Q I r z⟩
theorem tNames_len {env1 : Fv} : ∀ (tgs : List (T → Fv → Option Fv)) (ts : List T) (env : Fv), S.tNames tgs ts env = some env1 → ts.length = tgs.length
  | [], [], _, _ => rfl
  | [], _ :: _, _, e => by cases e
  | _ :: _, [], _, e => by cases e
  | tg :: tgs, t :: ts, env, e => by
    obtain ⟨env2, e1, e2⟩ := Option.bind_eq_some_iff.mp (show (tg t env).bind (fun env => S.tNames tgs ts env) = some env1 from e)
    rw [List.length_cons, List.length_cons, tNames_len tgs ts env2 e2]
theorem sg_seq {n : Nat} {gg : TGs} (h : SGs G d gg tgs) (hn : n = tgs.length) : SG G d (gOr (gTup G.K n gg) (gUnl G.K n gg)) (S.tSeq tgs) := fun A0 F0 H0 A env σ F H t v env1 Q R r e k => by
  cases t <;> (try cases e)
  · rename_i g ts
    obtain ⟨a, vs, rfl, h1, h3, h2⟩ := r
    have e' : S.tNames tgs ts env = some env1 := e
    exact .inr ⟨a, vs, rfl, .inl (.inl (R.sub _ _ h1)), by rw [h2.length, hn]; exact tNames_len tgs ts env e', h A0 F0 H0 A env σ F H ts vs env1 Q R h2 e' k⟩
  · rename_i ts
    obtain ⟨a, vs, rfl, h1, h2⟩ := r
    have e' : S.tNames tgs ts env = some env1 := e
    exact .inl ⟨a, vs, rfl, ex_s R.sub h1, by rw [h2.length, hn]; exact tNames_len tgs ts env e', h A0 F0 H0 A env σ F H ts vs env1 Q R h2 e' k⟩
theorem sc_seq {n : Nat} {gg : TGs} (h : SCs G d own gg tgs) (hn : n = tgs.length) : SC G d own (gOr (gTup G.K n gg) (gUnl G.K n gg)) (S.tSeq tgs) := fun A env σ F H t v env1 Q R eH r e k => by
  cases t <;> (try cases e)
  · rename_i g ts
    obtain ⟨a, vs, rfl, h1, h3, h2⟩ := r
    have e' : S.tNames tgs ts env = some env1 := e
    exact .inr ⟨a, vs, rfl, .inl (.inl (eH _ _ h1)), by rw [h2.length, hn]; exact tNames_len tgs ts env e', h A env σ F H ts vs env1 Q R eH h2 e' k⟩
  · rename_i ts
    obtain ⟨a, vs, rfl, h1, h2⟩ := r
    have e' : S.tNames tgs ts env = some env1 := e
    exact .inl ⟨a, vs, rfl, ex_s eH h1, by rw [h2.length, hn]; exact tNames_len tgs ts env e', h A env σ F H ts vs env1 Q R eH h2 e' k⟩
theorem dg_seq {k : Nat} (hc : X.calm = true) (h : DGs cl X d es tgs) (hn : (assignEach es X.env).length = tgs.length := by rfl) (hst : (assignEach es X.env).findIdx? (·.1) = none := by rfl) : DG cl X d (.Tuple es k pos) (S.tSeq tgs) := by
  obtain ⟨t, a1, a2⟩ := h
  exact ⟨_, pg_or (pg_tup hc a1 hn hst) (pg_unl hc a1 hn hst), sg_seq a2 rfl⟩
theorem dc_seq {k : Nat} (hc : X.calm = true) (h : DCs cl X d own es tgs) (hn : (assignEach es X.env).length = tgs.length := by rfl) (hst : (assignEach es X.env).findIdx? (·.1) = none := by rfl) : DC cl X d own (.Tuple es k pos) (S.tSeq tgs) := by
  obtain ⟨t, a1, a2⟩ := h
  exact ⟨_, pg_or (pg_tup hc a1 hn hst) (pg_unl hc a1 hn hst), sc_seq a2 rfl⟩
end
end Py

set_option Elab.async false
set_option linter.all false
set_option maxRecDepth 100000
set_option maxHeartbeats 4000000
namespace Py
open PySem L2 PySem.Spec PyProof.Rows Evl

/-! ### a dict walked by its keys: locked meanwhile -/
/-- at a the dict is locked or unlocked: all else is as it was -/
structure Swap (a : Addr) (kvs : List (Kt × V)) (F F' : Hp) : Prop where
  same : ∀ b, b ≠ a → F' b = F b
  here : Rd F a (.dT kvs)
  there : Rd F' a (.dT kvs)
theorem Swap.ne {a b : Addr} {kvs : List (Kt × V)} {F F' : Hp} {o : HO} (h : Swap a kvs F F') (e : F b = some o) (n1 : ∀ l, o ≠ .dT l) (n2 : ∀ z l, o ≠ .frz z (.dT l)) : b ≠ a := fun z => by
  subst z
  rcases h.here with y | ⟨q, y⟩
  · rw [e] at y; cases y; exact n1 _ rfl
  · rw [e] at y; cases y; exact n2 _ _ rfl
theorem Swap.get {a b : Addr} {kvs : List (Kt × V)} {F F' : Hp} {o : HO} (h : Swap a kvs F F') (e : F b = some o) (n1 : ∀ l, o ≠ .dT l) (n2 : ∀ z l, o ≠ .frz z (.dT l)) : F' b = some o := by
  rw [h.same b (h.ne e n1 n2)]
  exact e
section
variable {G : Ge} {A : Al} {F F' : Hp} {a : Addr} {kvs : List (Kt × V)}
mutual
theorem rep.swap (w : Swap a kvs F F') : ∀ {t : T} {v : V}, rep G A F t v → rep G A F' t v
  | .non, _, h => h
  | .bl _, _, h => h
  | .int _, _, h => h
  | .str _, _, h => h
  | .lst _ _, _, ⟨a, vs, h1, h2, h3, h4⟩ => ⟨a, vs, h1, w.get h2 (fun _ z => nomatch z) (fun _ _ z => nomatch z), h3, reps.swap w h4⟩
  | .tup _, _, ⟨a, vs, h1, h2, h3⟩ => ⟨a, vs, h1, w.get h2 (fun _ z => nomatch z) (fun _ _ z => nomatch z), reps.swap w h3⟩
  | .ro _, _, ⟨a, vs, h1, h2, h3⟩ => ⟨a, vs, h1, (by
      rcases h2 with (z | ⟨o, z⟩) | z
      · exact .inl (.inl (w.get z (fun _ y => nomatch y) (fun _ _ y => nomatch y)))
      · exact .inl (.inr ⟨o, w.get z (fun _ y => nomatch y) (fun _ _ y => nomatch y)⟩)
      · exact .inr z), reps.swap w h3⟩
  | .ins _ _ _ _, _, ⟨a, dx, vs, h1, h2, h3, h4, h5⟩ => ⟨a, dx, vs, h1, w.get h2 (fun _ z => nomatch z) (fun _ _ z => nomatch z), h3, h4, reps.swap w h5⟩
  | .dct _ _ _, _, ⟨b, vs, h1, h2, h3, h4, h5⟩ => ⟨b, vs, h1, (by
      by_cases c : b = a
      · subst c
        have hk : ∀ l, Rd F b (.dT l) → l = kvs := fun l hl => by
          rcases hl with x | ⟨p, x⟩ <;> rcases w.here with y | ⟨q, y⟩ <;> rw [x] at y <;> cases y <;> rfl
        rw [hk _ h2]
        exact w.there
      · rcases h2 with z | ⟨o, z⟩
        · exact .inl (by rw [w.same b c]; exact z)
        · exact .inr ⟨o, by rw [w.same b c]; exact z⟩), h3, h4, reps.swap w h5⟩
  | .exn _ _ _, _, ⟨a, cls, dx, h1, h2, h3, h4⟩ => ⟨a, cls, dx, h1, h2, h3, match h4 with
    | .inl z => .inl z
    | .inr ⟨dd, vs, k1, k2, k3, k4⟩ => .inr ⟨dd, vs, k1, w.get k2 (fun _ z => nomatch z) (fun _ _ z => nomatch z), k3, reps.swap w k4⟩⟩
theorem reps.swap (w : Swap a kvs F F') : ∀ {ts : List T} {vs : List V}, reps G A F ts vs → reps G A F' ts vs
  | [], _, h => h
  | _ :: _, _, ⟨v, ws, h1, h2, h3⟩ => ⟨v, ws, h1, rep.swap w h2, reps.swap w h3⟩
end
theorem RE.swap {d : Nat} {env : Fv} {σ : L2.St} (w : Swap a kvs F F') (R : RE G d A env σ F) : RE G d A env σ F' where
  ok := ⟨R.ok.inj, fun g b q => by
    by_cases c : b = a
    · subst c
      obtain ⟨o, z⟩ := rd_some w.there
      rw [z]
      exact fun y => nomatch y
    · rw [w.same b c]
      exact R.ok.al g b q⟩
  len := R.len
  dep := R.dep
  slots := fun i t h => let ⟨v, h1, h2⟩ := R.slots i t h; ⟨v, h1, h2.swap w⟩
end
/-- under a lock, or the dict is locked as it is -/
def tLK (te : TE) : TE := fun σ H Q => tLockE te σ H Q ∨ te σ H Q
theorem pe_LK {X : Cx} {e : Expr} {t : TE} (h : PE X e t) : PE X e (tLK t) :=
  ⟨fun pins s σ H Q I hw => hw.elim (fun z => (pe_lock h).run pins s σ H Q I z) fun z => h.run pins s σ H Q I z⟩
theorem ps_LK {X : Cx} {st : Stmt} {t : TE} {i : Nat} (h : PS X st (tAsg t (gName i))) : PS X st (tAsg (tLK t) (gName i)) :=
  ⟨fun pins s σ H D I hw => hw.elim (fun z => (ps_lock h).run pins s σ H D I z) fun z => h.run pins s σ H D I z⟩
def keysOf : T → Option (List T)
  | .dct _ ks _ => some (ks.map ktT)
  | _ => none
def P.keysD (p : P.Ex1) : Fv → Res (List T) := fun env => (p env).bind fun t => .of (keysOf t)
section
variable {G : Ge} {d : Nat} {W : WX} {A : Al} {F H : Hp} {env : Fv} {σ : L2.St} {te : TE} {p : P.Ex1} {tt : TT} {b : P.Bx}
theorem lc_body {g : TG} {own : List Nat} {tg : T → Fv → Option Fv} {xs : List T} {J : It} {Q : VK} (hg : SC G d own g tg) (ht : ST G d W0 tt b) (he : SE G d W0 te p) (R : RE G d A env σ F) (e : Ex F H) (hJ : ItIs G A F xs J)
    (o1 : Outg G A F H (fun F1 (ts : List T) (b : Addr × List V) => reps G A F1 ts b.2 ∧ F1 b.1 = none) (fun b H1 => H b.1 = none → H1 b.1 = some (.lst b.2) → Q (.ref b.1) H1) (WE W σ) (if lfit xs.length = true then P.turnsC tg b p (wipeE env own) xs else .stuck)) (Dl : Addr) (hD : H Dl = none) :
    ∃ W : Nat → Nat → Hp → Prop, (∃ m, W 0 m (upd H Dl (.lst []))) ∧ ∀ i m H, W i m H →
      (J.stop i H ∧ Q (.ref Dl) H) ∨ (J.go i H ∧ ∃ Nx : Hp → Prop, (∀ H', Nx H' → ∃ m', m' < m ∧ W (i + 1) m' H') ∧ ∀ x H', J.yld i H x H' → g x (L2.wipe σ own) H' fun σ2 H2 => L2.wipe σ2 own = L2.wipe σ own ∧ tt σ2 H2 fun b H3 =>
        if b = true then te σ2 H3 fun y H4 => ∃ acc, H4 Dl = some (.lst acc) ∧ acc.length < sizeLine ∧ Nx (upd H4 Dl (.lst (acc ++ [y]))) else Nx H3) := by
  obtain ⟨F1, H1, hF_, hH_⟩ : ∃ F1 H1, F = F1 ∧ H = H1 := ⟨_, _, rfl, rfl⟩
  have g1 : Grow F H F1 H1 := by rw [← hF_, ← hH_]; exact Grow.refl e
  have hJ : ItIs G A F1 xs J := hF_ ▸ hJ
  have hD : H1 Dl = none := hH_ ▸ hD
  rw [show upd H Dl (.lst []) = upd H1 Dl (.lst []) from by rw [hH_]]
  obtain ⟨hz, o2⟩ := Outg.if_ o1
  have hz' : xs.length ≤ sizeLine := of_decide_eq_true hz
  cases y : P.turnsC tg b p (wipeE env own) xs with
  | er e =>
    -- nothing is raised
    exfalso
    have nx : ∀ xs, P.turnsC tg b p (wipeE env own) xs ≠ .er e := by
      intro xs
      induction xs with
      | nil => intro h; cases h
      | cons x xs ih =>
        intro h
        have h' : (match tg x (wipeE env own) with
          | some env1 => (match b env1 with
            | .ok b => if b = true then (match p env1 with
                | .ok y => (P.turnsC tg ‹P.Bx› p (wipeE env own) xs).bind fun ys => .ok (y :: ys)
                | _ => .stuck) else P.turnsC tg ‹P.Bx› p (wipeE env own) xs
            | _ => .stuck)
          | none => .stuck) = Res.er e := h
        split at h'
        · split at h'
          · split at h'
            · split at h'
              · cases q : P.turnsC tg b p (wipeE env own) xs with
                | ok ys => rw [q] at h'; cases h'
                | er e2 => rw [q] at h'; cases h'; exact ih q
                | stuck => rw [q] at h'; cases h'
              · cases h'
            · exact ih h'
          · cases h'
        · cases h'
    exact nx xs y
  | stuck => rw [y] at o2; exact o2.elim
  | ok all =>
    rw [y] at o2
    have hF1 : F1 Dl = none := none_of_ex g1.sub hD
    have hH : H Dl = none := none_of_ex g1.keep hD
    refine ⟨fun k m H' => m = xs.length - k ∧ k ≤ xs.length ∧ CompAt G A F1 H1 tg b p (wipeE env own) xs all Dl k H', ⟨xs.length, by simp, Nat.zero_le _, F1, [], [], all, Grow.junk g1.sub hD, hF1, upd_same, rfl, Nat.le_refl _, y, rfl⟩, ?_⟩
    rintro k m H' ⟨rfl, hk, Fk, acc, done, rest, gk, hFk, hHk, rk, lk, tk, ek⟩
    have exk : Ex F1 Fk := gk.ex
    by_cases hlt : k < xs.length
    · refine .inr ⟨hJ.go k H' (exk.trans gk.sub) hlt, CompAt G A F1 H1 tg b p (wipeE env own) xs all Dl (k + 1), fun H'' p' => ⟨xs.length - (k + 1), by omega, rfl, hlt, p'⟩, fun x H2 yl => ?_⟩
      have hx : xs[k]? = some xs[k] := List.getElem?_eq_getElem hlt
      obtain ⟨F2, g2, rx⟩ := hJ.yld k Fk H' x H2 _ exk gk.sub hx yl
      rw [List.drop_eq_getElem_cons hlt] at tk
      have tk' : (match tg xs[k] (wipeE env own) with
        | some env1 => (match b env1 with
          | .ok bb => if bb = true then (match p env1 with
              | .ok y => (P.turnsC tg b p (wipeE env own) (xs.drop (k + 1))).bind fun ys => .ok (y :: ys)
              | _ => .stuck) else P.turnsC tg b p (wipeE env own) (xs.drop (k + 1))
          | _ => .stuck)
        | none => .stuck) = Res.ok rest := tk
      cases q : tg xs[k] (wipeE env own) with
      | none => rw [q] at tk'; cases tk'
      | some env1 =>
        simp only [q] at tk'
        have Rw : RE G d A (wipeE env own) (L2.wipe σ own) F2 := ((R.wipe own).mono (g1.ex.trans (exk.trans g2.ex)))
        refine hg A _ _ F2 H2 _ x env1 _ Rw g2.sub rx q fun σ' R' hl hw => ⟨wipe_eq (by rw [hl, wipe_length]) hw, ?_⟩
        refine ht A env1 σ' F2 H2 _ R' g2.sub ?_
        cases q2 : b env1 with
        | er e => simp only [q2] at tk'; cases tk'
        | stuck => simp only [q2] at tk'; cases tk'
        | ok bb =>
          simp only [q2] at tk'
          intro bv F3 H3 g3 eb
          subst eb
          have gA : Grow F1 H1 F3 H3 := (gk.trans g2).trans g3
          have hF3 : F3 Dl = none := (g2.trans g3).sep Dl hFk ⟨_, hHk, fun _ y => nomatch y⟩
          have hH3 : H3 Dl = some (.lst acc) := g3.keep _ _ (g2.keep _ _ hHk)
          cases bb with
          | false =>
            exact ⟨F3, acc, done, rest, gA, hF3, hH3, rk.mono (g2.ex.trans g3.ex), Nat.le_succ_of_le lk, tk', ek⟩
          | true =>
            show te σ' H3 _
            have tk2 : (match p env1 with
              | .ok y => (P.turnsC tg b p (wipeE env own) (xs.drop (k + 1))).bind fun ys => .ok (y :: ys)
              | _ => .stuck) = Res.ok rest := tk'
            refine he A env1 σ' F3 H3 _ (R'.mono g3.ex) g3.sub ?_
            cases q3 : p env1 with
            | er e => simp only [q3] at tk2; cases tk2
            | stuck => simp only [q3] at tk2; cases tk2
            | ok yt =>
              simp only [q3] at tk2
              intro yv F4 H4 g4 ry
              cases q4 : P.turnsC tg b p (wipeE env own) (xs.drop (k + 1)) with
              | er e => rw [q4] at tk2; cases tk2
              | stuck => rw [q4] at tk2; cases tk2
              | ok ys =>
                rw [q4] at tk2
                cases tk2
                have hF4 : F4 Dl = none := g4.sep Dl hF3 ⟨_, hH3, fun _ y => nomatch y⟩
                have hH4 : H4 Dl = some (.lst acc) := g4.keep _ _ hH3
                have gB := gA.trans g4
                have rk4 := (rk.mono (g2.ex.trans g3.ex)).mono g4.ex
                refine ⟨acc, hH4, ?_, F4, acc ++ [yv], done ++ [yt], ys, ⟨gB.ex, fun a o2 h2 => ?_, fun a o2 h2 => ?_, gB.sep⟩, hF4, upd_same, rk4.append (reps.one ry), ?_, q4, ?_⟩
                · have l := rk4.length
                  rw [l]
                  omega
                · rw [upd_ne (fun c => by rw [c, hF4] at h2; cases h2)]
                  exact gB.sub a o2 h2
                · rw [upd_ne (fun c => by rw [c, hD] at h2; cases h2)]
                  exact gB.keep a o2 h2
                · rw [List.length_append, List.length_singleton]
                  omega
                · rw [ek, List.append_assoc] <;> rfl
    · have ek2 : k = xs.length := by omega
      subst ek2
      refine .inl ⟨hJ.stop _ H' (exk.trans gk.sub) (Nat.le_refl _), ?_⟩
      rw [List.drop_eq_nil_of_le (Nat.le_refl _)] at tk
      cases tk
      rw [List.append_nil] at ek
      subst ek
      exact o2 (Dl, acc) Fk H' (g1.trans gk) ⟨rk, hFk⟩ hH hHk
/-- the keys of a locked dict -/
theorem itIs_keys {a : Addr} {od : Obj} {ks : List Kt} {vs : List V} (h : F a = some (.frz od (.dT (ks.zip vs)))) (hl : vs.length = ks.length) : ItIs G A F (ks.map ktT) (Itkt a od (ks.zip vs)) where
  go := fun i H e hi => ⟨e _ _ h, by rw [List.length_zip, hl, Nat.min_self]; rw [List.length_map] at hi; exact hi⟩
  stop := fun i H e hi => ⟨e _ _ h, by rw [List.length_zip, hl, Nat.min_self]; rw [List.length_map] at hi; exact hi⟩
  yld := fun i F1 H x H' t e1 e2 ht y => by
    obtain ⟨rfl, k, v, q, hk, rfl, hq⟩ := y
    rw [List.getElem?_map] at ht
    have hk2 : ks[i]? = some k := by
      obtain ⟨h1, h2⟩ := List.getElem?_eq_some_iff.mp hk
      rw [List.getElem_zip] at h2
      rw [List.length_zip] at h1
      cases h2
      exact List.getElem?_eq_getElem (by omega)
    rw [hk2] at ht
    cases ht
    refine ⟨fun b => if b = q then H' q else F1 b, ⟨fun b o z => ?_, fun b o z => ?_, Ex.refl _, fun b z1 z2 => ?_⟩, q, k.map kV, rfl, ?_, reps_kT k⟩
    · show (if b = q then H' q else F1 b) = some o
      by_cases c : b = q
      · subst c; rw [if_pos rfl]; exact e2 _ _ z
      · rw [if_neg c]; exact z
    · have z' : (if b = q then H' q else F1 b) = some o := z
      by_cases c : b = q
      · subst c; rw [if_pos rfl] at z'; exact z'
      · rw [if_neg c] at z'; exact e2 _ _ z'
    · show (if b = q then H' q else F1 b) = none
      by_cases c : b = q
      · subst c
        obtain ⟨u, y1, y2⟩ := z2
        rw [hq] at y1
        cases y1
        exact absurd rfl (y2 _)
      · rw [if_neg c]; exact z1
    · show (if q = q then H' q else F1 q) = _
      rw [if_pos rfl]
      exact hq
theorem sn_lcK {i : Nat} {g : TG} {own : List Nat} {tg : T → Fv → Option Fv} (hg : SC G d own g tg) (ht : ST G d W0 tt b) (he : SE G d W0 te p) : SN G d W (tLK (tLc (iKeys (tVar i)) g tt te own)) (P.comp own tg (P.keysD (P.var d i)) b p) := fun A env σ F H Q R e o => by
  have o' : Outg G A F H (fun F1 (ts : List T) (b : Addr × List V) => reps G A F1 ts b.2 ∧ F1 b.1 = none) (fun b H1 => H b.1 = none → H1 b.1 = some (.lst b.2) → Q (.ref b.1) H1) (WE W σ) (((Res.of (rd d i env)).bind fun t => .of (keysOf t)).bind fun xs => if lfit xs.length = true then P.turnsC tg b p (wipeE env own) xs else .stuck) := o
  cases z : rd d i env with
  | none => rw [z] at o'; exact o'.elim
  | some t =>
    rw [z, Res.of_some, Res.bind_ok] at o'
    obtain ⟨v, hσ, rv⟩ := R.slots i t z
    cases t <;> (try exact o'.elim)
    rename_i gt ks ts
    obtain ⟨a, vs, rfl, h2, h3, h4, h5⟩ := rv
    have o2 : Outg G A F H (fun F1 (ts : List T) (b : Addr × List V) => reps G A F1 ts b.2 ∧ F1 b.1 = none) (fun b H1 => H b.1 = none → H1 b.1 = some (.lst b.2) → Q (.ref b.1) H1) (WE W σ) (if lfit (ks.map ktT).length = true then P.turnsC tg b p (wipeE env own) (ks.map ktT) else .stuck) := o'
    rcases h2 with h2 | ⟨od, h2⟩
    · refine .inl ⟨a, _, e _ _ h2, trivial, fun od => ?_⟩
      have hF : F a = some (.dT (ks.zip vs)) := h2
      have w : Swap a (ks.zip vs) F (upd F a (.frz od (.dT (ks.zip vs)))) := ⟨fun b hb => upd_ne hb, .inl hF, .inr ⟨od, upd_same⟩⟩
      have eL : Ex (upd F a (.frz od (.dT (ks.zip vs)))) (upd H a (.frz od (.dT (ks.zip vs)))) := ex_upd e
      have R' := R.swap w
      have hJ : ItIs G A (upd F a (.frz od (.dT (ks.zip vs)))) (ks.map ktT) (Itkt a od (ks.zip vs)) := itIs_keys upd_same h3
      refine ⟨_, hσ, a, od, rfl, .inr ⟨_, upd_same, fun Dl hD => lc_body hg ht he R' eL hJ (Q := fun v H' => H' a = some (.frz od (.dT (ks.zip vs))) ∧ Q v (upd H' a (.dT (ks.zip vs)))) (W := W) ?_ Dl hD⟩⟩
      obtain ⟨hz, o3⟩ := Outg.if_ o2
      rw [if_pos hz]
      cases y : P.turnsC tg b p (wipeE env own) (ks.map ktT) with
      | er x => exact absurd y (turnsC_er _)
      | stuck => rw [y] at o3; exact o3.elim
      | ok all =>
        rw [y] at o3
        intro bb F1 H1 g1 rb hb hl
        have fa : F1 a = some (.frz od (.dT (ks.zip vs))) := g1.ex _ _ upd_same
        have ha : H1 a = some (.frz od (.dT (ks.zip vs))) := g1.sub _ _ fa
        have hba : bb.1 ≠ a := fun q => by rw [q] at rb; rw [fa] at rb; cases rb.2
        have w1 : Swap a (ks.zip vs) F1 (upd F1 a (.dT (ks.zip vs))) := ⟨fun b hb => upd_ne hb, .inr ⟨od, fa⟩, .inl upd_same⟩
        refine ⟨ha, o3 bb (upd F1 a (.dT (ks.zip vs))) (upd H1 a (.dT (ks.zip vs))) ⟨fun c u q => ?_, ex_upd g1.sub, fun c u q => ?_, fun c q1 q2 => ?_⟩ ⟨rb.1.swap w1, by rw [upd_ne hba]; exact rb.2⟩ ?_ ?_⟩
        · by_cases k : c = a
          · subst k
            rw [hF] at q
            cases q
            exact upd_same
          · rw [upd_ne k]
            exact g1.ex _ _ (by rw [upd_ne k]; exact q)
        · by_cases k : c = a
          · subst k
            rw [e _ _ hF] at q
            cases q
            exact upd_same
          · rw [upd_ne k]
            exact g1.keep _ _ (by rw [upd_ne k]; exact q)
        · have k : c ≠ a := fun q => by rw [q, hF] at q1; cases q1
          rw [upd_ne k]
          refine g1.sep c (by rw [upd_ne k]; exact q1) ?_
          obtain ⟨u, y1, y2⟩ := q2
          exact ⟨u, by rw [upd_ne k]; exact y1, y2⟩
        · rw [upd_ne hba] at hb
          exact hb
        · rw [upd_ne hba]
          exact hl
    · exact .inr ⟨_, hσ, a, od, rfl, .inr ⟨_, e _ _ h2, fun Dl hD => lc_body hg ht he R e (itIs_keys h2 h3) o2 Dl hD⟩⟩
end
section
variable {cl : Cl} {X : Cx} {d : Nat} {W : WX} {elt tg : Expr} {ifs : List Expr} {p : P.Ex1} {b : P.Bx} {own : List (Str × Nat)} {tgT : T → Fv → Option Fv} {pos spos py px : Pos} {scope : Scope} {x : Str}
theorem dn_lcK {j : Nat} (hN : X.N.Nodup) (ok : BlkOk X.N X.env.scope scope own)
    (hg : ∀ (s : Shared) (H : Hp) (C : Addr) (c : List (Str × Addr)) (fp : List Addr), DC cl (XBlk X scope s H C c fp) d (own.map (·.2)) tg tgT) (ht : ∀ (s : Shared) (H : Hp) (C : Addr) (c : List (Str × Addr)) (fp : List Addr), DTs cl (XBlk X scope s H C c fp) d W0 ifs b)
    (he : ∀ (s : Shared) (H : Hp) (C : Addr) (c : List (Str × Addr)) (fp : List Addr), DE cl (XBlk X scope s H C c fp) d W0 elt p) (hx : X.N[j]? = some x := by rfl) (hv : Vis X.env.scope x := by first | exact Or.inl rfl | exact Or.inr (Or.inl rfl) | exact Or.inr (Or.inr rfl)) (hd : (x == ("__debug__" : Str)) = false := by decide) (hcd : (x == ("__classdict__" : Str)) = false := by decide) (hc : X.calm = true := by rfl) (hs : ∀ y, foldedSetIterable (.Name x px) X.env y = pure y := by intro _; rfl) :
    DN cl X d W (.ListComp elt [⟨tg, .Name x px, ifs, 0⟩] scope pos) (P.comp (own.map (·.2)) tgT (P.keysD (P.var d j)) b p) :=
  ⟨_, pe_LK (pe_lc hc hN (pi_keys (pe_var hx hv hd hcd)) ok (fun s H C c fp => (hg s H C c fp).pg) (fun s H C c fp => (ht s H C c fp).pt) (fun s H C c fp => (he s H C c fp).pe) hs), sn_lcK sc_cC st_cT se_cE⟩
theorem ds_asgLcK {i j : Nat} {y : Str} (hN : X.N.Nodup) (ok : BlkOk X.N X.env.scope scope own)
    (hg : ∀ (s : Shared) (H : Hp) (C : Addr) (c : List (Str × Addr)) (fp : List Addr), DC cl (XBlk X scope s H C c fp) d (own.map (·.2)) tg tgT) (ht : ∀ (s : Shared) (H : Hp) (C : Addr) (c : List (Str × Addr)) (fp : List Addr), DTs cl (XBlk X scope s H C c fp) d W0 ifs b)
    (he : ∀ (s : Shared) (H : Hp) (C : Addr) (c : List (Str × Addr)) (fp : List Addr), DE cl (XBlk X scope s H C c fp) d W0 elt p) (hsw : swapsWith (.ListComp elt [⟨tg, .Name x px, ifs, 0⟩] scope pos) (some (.Name y py)) spos.line X.env = pure true) (hx : X.N[j]? = some x := by rfl) (hv : Vis X.env.scope x := by first | exact Or.inl rfl | exact Or.inr (Or.inl rfl) | exact Or.inr (Or.inr rfl)) (hy : X.N[i]? = some y := by rfl) (hyl : X.env.scope.names.lookup y = some .local := by rfl) (hd : (x == ("__debug__" : Str)) = false := by decide) (hcd : (x == ("__classdict__" : Str)) = false := by decide) (hc : X.calm = true := by rfl) (hs : ∀ z, foldedSetIterable (.Name x px) X.env z = pure z := by intro _; rfl) (hp : i = 0 → cl.pin = none := by first | (intro _; assumption) | (intro h; cases h)) :
    DS cl X d W (.Assign [.Name y py] (.ListComp elt [⟨tg, .Name x px, ifs, 0⟩] scope pos) spos) (S.asg i (P.lc (own.map (·.2)) tgT (P.keysD (P.var d j)) b p)) :=
  ⟨_, ps_LK (ps_setLc hc hN hy hyl hsw (pi_keys (pe_var hx hv hd hcd)) ok (fun s H C c fp => (hg s H C c fp).pg) (fun s H C c fp => (ht s H C c fp).pt) (fun s H C c fp => (he s H C c fp).pe) hs), ss_asg (SN.se (sn_lcK sc_cC st_cT se_cE)) hp⟩
end
end Py

set_option Elab.async false
set_option linter.all false
set_option maxRecDepth 100000
set_option maxHeartbeats 4000000
theorem L2H.RoomH.units {k : Nat} {A : PySem.Around} (r : L2H.RoomH k A) : A.units + 64 < PySem.cLine := by have := r.un; omega
theorem L2H.RoomH.units0 {k : Nat} {A : PySem.Around} (r : L2H.RoomH k A) : A.units < PySem.cLine := by have := r.un; omega
theorem rh_suite {k : Nat} {A : PySem.Around} {v : Option PySem.Value} (r : L2.Room k A) : L2H.RoomH k (A.mark v) := ⟨r.dp, r.un⟩
namespace Py
open PySem L2 PySem.Spec PyProof.Rows Evl

/-! ### defs called within an except suite, that raise nothing -/
def noE : XK := fun _ _ _ => False
structure FnQ (P : Program) (w : World) (K : PySem.W.Frag) (mg : Str → Option Value) (base : Heap) (k : Nat) (f : Addr) (fd : FuncData) (ps : List Str) (sp : Sp) : Prop where
  len : ∀ vs H Q E, sp vs H Q E → vs.length = ps.length
  go : ∀ (A : Around) (out : List Env) (s : Shared) (H : Hp) (ar : Args) (us : List Value) (vs : List V) (Q : VK) (xp : Addr × Obj), L2H.RoomH k A → L2H.PinOk out H s xp → Env0 P w K mg base A out s H → BindsTo s fd ar (ps.zip us) → Vals vs us → sp vs H Q noE →
    codeAny (model P w) A (.call (.ref f) ar) (CR (L2.CX P w) out P w H s Q noE) s
/-- its body's context -/
abbrev XQ (P : Program) (w : World) (K : PySem.W.Frag) (mg : Str → Option Value) (base : Heap) (N : List Str) (qual : Str) (sc : Scope) (f : Addr) (cd : Value) (A : Around) (out : List Env) (s : Shared) (H : Hp) (xp : Addr × Obj) : Cx :=
  L2H.cxH (L2.CX P w) P w K mg base N qual sc f cd A out s H noE xp
section
variable {P : Program} {w : World} {K : PySem.W.Frag} {mg : Str → Option Value} {base : Heap} {x qual : Str} {params : Arguments} {body : List Stmt} {scope : Scope} {f : Addr} {fd : FuncData} {N ps : List Str} {k n : Nat} {sp : Sp}
theorem quiet_of (F : FunD K x qual params body scope [] [] f fd) (S : FnScope N ps scope) (ln : ∀ vs H Q E, sp vs H Q E → vs.length = ps.length)
    (hB : ∀ (cdv : Value) (A : Around) (out : List Env) (s : Shared) (H : Hp) (vs : List V) (Q : VK) (xp : Addr × Obj), L2H.RoomH k (A.deeper (envOfC qual scope s.heap.objs.size f cdv)) → sp vs H Q noE →
      ∃ t, PSs (XQ P w K mg base N qual scope f cdv A out s H xp) body t ∧ t { nx := fun _ H1 => Q .non H1, rt := Q } (L2.start N vs) H) :
    FnQ P w K mg base (k + 1) f fd ps sp := by
  obtain ⟨c1, d1, c2, c3, c4, c5, c6, cdv, c7, c8, rfl, atf, isC, _, _⟩ := F.ex
  refine ⟨ln, fun A out s H ar us vs Q xp room pin en bnd rel pro => ?_⟩
  have len1 := ln _ _ _ _ pro
  have inK : K.In s.heap := en.mod.kin.keeps fun b o z => (en.bs b o z).1
  have nl : s.heap.NoLimit := en.mod.nolimit.keeps fun b o z => (en.bs b o z).1
  have kinds : ∀ y ∈ ps.zip us, scope.names.lookup y.1 = some .local ∨ (scope.names.lookup y.1 = some .cell ∧ ((cellsFrom (s.heap.objs.size + 1) scope.names []).lookup y.1).isSome = true) := by
    rintro ⟨a, v⟩ hy
    exact (S.par a (List.of_mem_zip hy).1).imp id fun z => ⟨z, PySem.W.cellsFrom_some _ _ _ (.inl z)⟩
  refine codeAny_call_function room.depth (inK _ _ atf) rfl S.co S.gen rfl (PySem.W.codeRec_of inK isC) (bnd _ _ _ _ ?_)
  refine wpAny_newFunctionEnv_cells S.kind kinds fun en2 hen s2 ic => ?_
  subst hen
  refine ⟨nl.keeps ic.toInCall.keep, codeAny_func ?_⟩
  obtain ⟨t, hp, ht⟩ := hB cdv A out s H vs Q xp (room.deeper _) pro
  have J0 : Inv (XQ P w K mg base N qual scope f cdv A out s H xp) [] (L2.start N vs) H s2 := L2H.inv_startH S pin en len1 rel ic
  refine wpAny_mono (hp.run [] s2 (L2.start N vs) H _ J0 ht) (fun fl s3 h3 => ?_) fun _ _ z => z
  cases fl with
  | next =>
    obtain ⟨σ3, H3, J, q⟩ := h3
    exact ⟨V.non, H3, J.os, J.bare, J.base, J.hok, rfl, q⟩
  | ret u =>
    obtain ⟨v, σ3, H3, J, rv, q⟩ := h3
    exact ⟨v, H3, J.os, J.bare, J.base, J.hok, rv, q⟩
  | brk =>
    obtain ⟨_, _, _, q⟩ := h3
    exact q.elim
  | cont =>
    obtain ⟨_, _, _, q⟩ := h3
    exact q.elim
end
/-- .. as its callers use it -/
structure DokQ (cl : Cl) (P : Program) (w : World) (K : PySem.W.Frag) (mg : Str → Option Value) (base : Heap) (x : Str) (k n : Nat) (f : Nat → List T → Res T) : Prop where
  ex : ∃ fa fd ps, FnQ P w K mg base k fa fd ps (spT ⟨K, cl⟩ n f) ∧ Binds K fd ps [] ∧ PySem.W.keepIn K (.ref fa) = true ∧ mg x = some (.ref fa)
theorem dokQ_of {cl : Cl} {P : Program} {w : World} {K : PySem.W.Frag} {mg : Str → Option Value} {base : Heap} {x : Str} {st : Stmt} {f : Addr} {fd : FuncData} {N ps : List Str} {k n : Nat} {fT : Nat → List T → Res T} {sT : Nat → Sx}
    (F : FnP K x st f fd) (S : FnScope N ps (defScope st)) (hn : n = ps.length) (hle : ps.length ≤ N.length) (p0 : cl.pin = none) (hm : mg x = some (.ref f)) (hf : ∀ d ts, fT d ts = run N.length (sT d) ts)
    (hb : ∀ (kV doc pm : Value) (an : Option Addr) (cdv ct : Value) (us : List Value), us.length = ps.length → bindArgs (PySem.W.fnOf x x (defArgs st) (defBody st) (defScope st) .none kV doc pm an cdv ct) ⟨us, []⟩ = pure (ps.zip us))
    (h : ∀ (d : Nat) (cdv : Value) (A : Around) (out : List Env) (s : Shared) (H : Hp) (xp : Addr × Obj), L2H.RoomH k (A.deeper (envOfC x (defScope st) s.heap.objs.size f cdv)) → DB cl (XQ P w K mg base N x (defScope st) f cdv A out s H xp) d (WOf noE) (defBody st) (sT d)) :
    DokQ cl P w K mg base x (k + 1) n fT := by
  subst hn
  refine ⟨f, fd, ps, quiet_of F S (fun vs H Q E z => z.1) (fun cdv A out s H vs Q xp hr pro => ?_), F.bindsN hb, F.kp, hm⟩
  obtain ⟨hl, d, A0, F0, ts, ok, dep, e, r, o⟩ := pro
  obtain ⟨t, a1, a2⟩ := h d cdv A out s H xp hr
  refine ⟨t, a1, body_ok (N := N) a2 ok dep e r (by rw [← r.length, hl]; exact hle) p0 ?_⟩
  rw [← hf]
  exact o
/-- what is raised is not wanted -/
def Res.quiet {α : Type} : Res α → Res α
  | .ok a => .ok a
  | _ => .stuck
@[simp] theorem Res.quiet_ok {α : Type} (a : α) : Res.quiet (.ok a) = .ok a := nrfl rfl
def P.callQ (f : List T → Res T) (a : P.Ax) : P.Ex1 := fun env => (a env).bind fun ts => (f ts).quiet
@[simp] theorem ev_callQ {f : List T → Res T} {a : P.Ax} {env : Fv} : P.callQ f a env = (a env).bind fun ts => (f ts).quiet := nrfl rfl
section
variable {cl : Cl} {X : Cx} {d k n : Nat} {W : WX} {e : Expr} {es : List Expr} {a : P.Ax} {x : Str} {f : Nat → List T → Res T} {p1 pos : Pos} {fa : Addr} {fd : FuncData} {ps : List Str} {sp : Sp} {t : TA}
theorem run_quiet {pl : List (Addr × Obj)} {σ : L2.St} {H : Hp} {s : Shared} {Q : VK} {us : List Value} {vs : List V} (F : FnQ X.prog X.w X.K X.mg X.base k fa fd ps sp) (hr : L2H.RoomH k X.A) {xp : Addr × Obj} (hp : xp ∈ X.pn) (hb : Binds X.K fd ps []) (hx : PassesAt (L2.CX X.prog X.w) X σ noE)
    (I : Inv X pl σ H s) (r : Vals vs us) (h : sp vs H Q noE) : wpAny (model X.prog X.w) X.A (call (.ref fa) us) (EP X pl σ Q) X.xe s := by
  have n1 : us.length = ps.length := by rw [← r.length]; exact F.len _ _ _ _ h
  have bd := hb s us I.kIn (by rw [List.append_nil]; exact n1)
  rw [List.append_nil] at bd
  have pp := I.pin xp (List.mem_append_left _ hp)
  have pk : L2H.PinOk X.stack H s xp := ⟨pp.1, pp.2.1, fun z => (List.mem_cons.mp (I.stkSub xp.1 z)).elim pp.2.2.1 pp.2.2.2.1, pp.2.2.2.2⟩
  refine wpAny_call (codeAny_mono (F.go X.A X.stack s H ⟨us, []⟩ us vs Q xp hr pk I.env0 bd r h) fun r1 s1 h1 => ?_)
  cases r1 with
  | error er => exact hx pl H s er s1 I h1
  | ok fl =>
    cases fl with
    | ret u => exact I.after h1
    | next => exact h1.elim
    | brk => exact h1.elim
    | cont => exact h1.elim
theorem pe_quiet (F : FnQ X.prog X.w X.K X.mg X.base k fa fd ps sp) (hr : L2H.RoomH k X.A) {xp : Addr × Obj} (hp : xp ∈ X.pn) (hg : Gl X x) (hm : X.mg x = some (.ref fa)) (hk : PySem.W.keepIn X.K (.ref fa) = true) (hb : Binds X.K fd ps []) (hx : ∀ σ, PassesAt (L2.CX X.prog X.w) X σ noE)
    (ha : PA X (e :: es) t) (hdb : (x == ("__debug__" : Str)) = false) (he : starEach (e :: es) X.env = (false, eval e X.env) :: starEach es X.env) (hpl : (backTo pos (starEach es X.env)).any (·.1) = false) :
    PE X (.Call (.Name x p1) (e :: es) [] pos) (tCallS sp (fun _ => noE) t) := by
  refine ⟨fun pl s σ H Q I h => wpAny_Call_Name_kw (ld_glob I hg hm ?_ hdb)⟩
  refine PySem.W.callWith_K (h₀ := X.base) I.ok.mod.kin hk (thn (ha.run pos pl s σ H _ I h) fun us s1 ⟨vs, H1, I1, r, q⟩ => ⟨I1.kIn, ?_⟩) he hpl
  exact run_quiet F hr hp hb (hx σ) I1 r q
theorem se_quiet {G : Ge} {tl : TA} (hn : ∀ env xs, a env = .ok xs → xs.length = n) (hl : SA G d W tl a) : SE G d W (tCallS (spT G n f) (fun _ => noE) tl) (P.callQ (f (d + 1)) a) := fun A env σ F H Q R ex o => by
  have o1 : Out G A F H Q (WE W σ) ((a env).bind fun ts => (f (d + 1) ts).quiet) := o
  refine hl A env σ F H _ R ex ?_
  have hn1 := hn env
  cases q : a env with
  | stuck => rw [q] at o1; exact o1
  | er y => rw [q] at o1; exact o1
  | ok xs =>
    rw [q] at o1
    intro vs F1 H1 g1 rs
    refine ⟨by rw [rs.length]; exact hn1 xs q, d + 1, A, F1, xs, R.ok.mono g1.ex, fun g b z => Nat.lt_succ_of_le (R.dep g b z), g1.sub, rs, ?_⟩
    have o2 : Out G A F H Q (WE W σ) ((f (d + 1) xs).quiet) := o1
    cases z : f (d + 1) xs with
    | ok t => rw [z] at o2; exact Outg.step g1 o2
    | er y => rw [z] at o2; exact o2.elim
    | stuck => rw [z] at o2; exact o2.elim
theorem de_dQ (D : DokQ cl X.prog X.w X.K X.mg X.base x k n f) (hr : L2H.RoomH k X.A) {xp : Addr × Obj} (hp : xp ∈ X.pn) (ha : DA cl X d W (e :: es) a) (hn : ∀ env xs, a env = .ok xs → xs.length = n) (hx : ∀ σ, PassesAt (L2.CX X.prog X.w) X σ noE) (hg : Gl X x := by rfl) (hdb : (x == ("__debug__" : Str)) = false := by decide)
    (he : starEach (e :: es) X.env = (false, eval e X.env) :: starEach es X.env := by rfl) (hpl : (backTo pos (starEach es X.env)).any (·.1) = false := by rfl) : DE cl X d W (.Call (.Name x p1) (e :: es) [] pos) (P.callQ (f (d + 1)) a) := by
  obtain ⟨fa, fd, ps, F, hb, hk, hm⟩ := D
  obtain ⟨t, c1, c2⟩ := ha
  exact ⟨_, pe_quiet F hr hp hg hm hk hb hx c1 hdb he hpl, se_quiet hn c2⟩
theorem passQ {X : Cx} {σ : L2.St} : PassesAt (L2.CX X.prog X.w) X σ noE := fun pins H s e s' I h => passL0 pins σ H s e s' I h
end
end Py

set_option Elab.async false
set_option linter.all false
set_option maxRecDepth 100000
set_option maxHeartbeats 4000000
namespace Py
open PySem L2 PySem.Spec PyProof.Rows Evl He

/-! ### the hook with the addresses said (they need not be sought in the kernel) -/
def obsL (as : List Addr) (fa : List Fa) (fn : List DefD) (xs : List XF) (g : Addr → Option Obj) : AlD := obsX fa fn xs (frG g as)
def hookL (as : List Addr) (fa : List Fa) (fn : List DefD) (xs : List XF) : PySem.W.Hook where
  α := AlD
  obs := fun s => obsL as fa fn xs s.heap.get?
  val := fun _ => valD fn
  says := fun _ h => ∃ K : PySem.W.Frag, K.In h ∧ SaysX fa fn xs K
  of := fun _ _ e => ⟨_, frG_in, e⟩
  keeps := fun _ _ _ ⟨K, hK, c⟩ k => ⟨K, PySem.W.Frag.In.keeps hK k, c⟩
theorem obsL_eq {as : List Addr} {fa : List Fa} {fn : List DefD} {xs : List XF} {g : Addr → Option Obj} {s : Shared} (h : ∀ a, g a = s.heap.get? a) : obsL as fa fn xs g = (hookL as fa fn xs).obs s := by
  have e : g = s.heap.get? := funext h
  rw [e] <;> rfl
end Py

set_option Elab.async false
set_option linter.all false
set_option maxRecDepth 100000
set_option maxHeartbeats 4000000
namespace Py
open PySem L2 PySem.Spec PyProof.Rows Evl He
theorem old_kept' {s : Shared} {ob : Obj} {h' : Heap} (hk : ∀ b o, b ∉ [s.heap.objs.size] → (s.heap.push ob).get? b = some o → h'.get? b = some o) : ∀ b o, s.heap.get? b = some o → h'.get? b = some o := fun b o e => hk b o (fun hm => by
  rw [List.mem_singleton] at hm
  exact absurd (hm ▸ Heap.lt_size e) (Nat.lt_irrefl _)) (Heap.get?_push_of_some _ e)
/-! ### sum of a tuple of whole numbers -/
theorem sum_rawT {prog : Program} {w : World} {A : Around} {E : Value → Shared → Prop} {s : Shared} {l : Addr} {its : List Value} {ns : List Int} {Q : Value → Shared → Prop} (hh : A.handled = none) (hl : s.heap.IsTuple l its.toArray) (hi : IntsAre its ns)
    (h : ∀ h' tk t', (∀ b o, s.heap.get? b = some o → h'.get? b = some o) → Q (.int ns.sum t') { s with heap := h', toks := tk }) : wpAny (model prog w) A (call (.builtin "sum") [.ref l]) Q E s := by
  obtain ⟨xs, e⟩ := hi.allInts.items
  have hn : numsOf (intItems xs).toList = ns := by rw [← e]; exact hi.numsOf
  rw [nums_intItems] at hn
  rw [e] at hl
  have hlt : l < s.heap.objs.size := by obtain ⟨_, e, _⟩ := hl; exact Heap.lt_size e
  have hT : IsTup s.heap l (intItems xs) := hl
  refine call_sum_walkG (iter_tuple hT ?_)
  refine ⟨s.heap.objs.size, [s.heap.objs.size, l], [s.heap.objs.size], xs.size, (fun i v => (intItems xs)[i]? = some v), (fun i h => h.IsTupleIter s.heap.objs.size l i ∧ h.IsTuple l (intItems xs)), numAt xs, rfl, ?_, ?_, fun b hb => ?_, fun i v hv => intItems_at hv, fun h' tk t' hk => ?_⟩
  · have := Walks.tuple (prog := prog) (w := w) (A := A.in1) hh s.heap.objs.size l (Nat.ne_of_lt hlt) (intItems xs)
    have e2 : (intItems xs).size = xs.size := by simp [intItems]
    rw [e2] at this
    exact this
  · exact ⟨⟨_, Heap.get?_push_size _ rfl, rfl, rfl⟩, hT.keeps fun b o e => Heap.get?_push_of_some _ e⟩
  · show b < (s.heap.push _).objs.size
    rw [Heap.size_push]
    rcases List.mem_cons.mp hb with rfl | hb
    · exact Nat.lt_succ_self _
    · rw [List.mem_singleton] at hb
      rw [hb]
      exact Nat.lt_succ_of_lt hlt
  · have h2 := h h' tk t' (old_kept' hk)
    rw [preSum_eq, List.take_of_length_le (by simp), hn]
    exact h2
def B.sumT : List T → Option T
  | [.tup ts] => (match B.nums ts with | some l => some (.int l.sum) | none => none)
  | _ => none
section
variable {cl : Cl} {X : Cx}
theorem crd_sumT (hc : X.calm = true) : CRd cl X (.builtin "sum") B.sumT := ⟨fun vs H Q => ∃ (a : Addr) (ns : List Int), vs = [V.ref a] ∧ SqT X.K H a (ns.map V.int) ∧ Q (.int ns.sum) H, by
    intro pins s σ H vs us Q I r h
    obtain ⟨a, ns, rfl, hs, q⟩ := h
    obtain ⟨its, rv, hl, _⟩ := I.tuple hs
    rw [Vals.ref1 r]
    exact sum_rawT (I.ok.hd hc) hl rv.ints fun h' tk t' hk => ⟨.int _, H, I.kept hk, ⟨_, rfl⟩, q⟩, fun A F H Q E ts vs ok e r o => by
  unfold B.sumT at o
  split at o
  · rename_i us
    obtain ⟨v, rfl, a, ws, rfl, h1, h3⟩ := reps1 r
    cases z : B.nums us with
    | none => simp only [z] at o; exact o.elim
    | some l =>
      simp only [z] at o
      have ew := ints_of z h3
      subst ew
      exact ⟨a, l, rfl, ex_s e h1, Out.here o e rfl⟩
  · exact o.elim⟩
end
end Py

set_option Elab.async false
set_option linter.all false
set_option maxRecDepth 100000
set_option maxHeartbeats 4000000
namespace Py
open PySem L2 PySem.Spec PyProof.Rows Evl He
/-! ### gcd, lcm of two whole numbers; // by a divisor of either sign -/
def B.gcd : List T → Option T
  | [.int a, .int b] => some (.int ((Nat.gcd a.natAbs b.natAbs : Nat) : Int))
  | _ => none
def B.lcm : List T → Option T
  | [.int a, .int b] => if dfit a && dfit b then some (.int ((Nat.lcm a.natAbs b.natAbs : Nat) : Int)) else none
  | _ => none
def T.fdivN : T → T → Option T
  | .int i, .int j => if decide (j ≠ 0) && dfit j then some (.int (i.fdiv j)) else none
  | _, _ => none
section
variable {prog : Program} {w : World} {A : Around} {E : Value → Shared → Prop} {s : Shared} {Q : Value → Shared → Prop} {a b : Int} {t u : Tok}
theorem lcm_raw (ha : a.natAbs.log2 < 9000) (hb : b.natAbs.log2 < 9000) (h : Q (.int ((a.natAbs.lcm b.natAbs : Nat) : Int) s.toks) { s with toks := s.toks + 1 }) :
    wpAny (model prog w) A (call (.builtin "math.lcm") [.int a t, .int b u]) Q E s := by
  have lt : ∀ {n : Nat}, n.log2 < 9000 → n < 2 ^ 9000 := fun {n} h => by
    by_cases z : n = 0
    · rw [z]; exact Nat.two_pow_pos _
    · exact (Nat.log2_lt z).mp h
  have l2 : ∀ {n : Nat}, n < 2 ^ 9000 → n.log2 ≤ 9000 := fun {n} h => by
    by_cases z : n = 0
    · rw [z, Nat.log2_zero]; omega
    · exact Nat.le_of_lt ((Nat.log2_lt z).mpr h)
  have ha' := lt ha
  have hb' := lt hb
  have p1 : 1 < 2 ^ 9000 := Nat.one_lt_two_pow (by omega)
  have h1 : (max 1 a.natAbs).log2 ≤ 9000 := l2 (Nat.max_lt.mpr ⟨p1, ha'⟩)
  have h2 : (max a.natAbs b.natAbs).log2 ≤ 9000 := l2 (Nat.max_lt.mpr ⟨ha', hb'⟩)
  have h3 : (a.natAbs.lcm b.natAbs).log2 < bitsLine := by
    have q : a.natAbs.lcm b.natAbs ≤ a.natAbs * b.natAbs := PySem.W.mc_lcm_le _ _
    have q2 : a.natAbs.lcm b.natAbs < 2 ^ 18000 := by
      refine Nat.lt_of_le_of_lt q ?_
      have := Nat.mul_lt_mul'' ha' hb'
      rw [← Nat.pow_add] at this
      exact this
    have e : (18000 : Nat) < bitsLine := by decide
    by_cases z : a.natAbs.lcm b.natAbs = 0
    · rw [z, Nat.log2_zero]; omega
    · exact Nat.lt_trans ((Nat.log2_lt z).mpr q2) e
  refine call_function_meets PySem.W.MGF.kind_lcm PySem.W.MGF.plain_lcm PySem.W.MGF.entry_lcm (PySem.W.MGF.args_lcm _ _) (PySem.W.mg_run_lcm a t b u (by omega) (by omega) ?_).meets ?_
  · rw [PySem.W.mc_lcm_one]
    exact h3
  · rw [PySem.W.mc_lcm_one]
    exact h
end
section
variable {cl : Cl} {X : Cx}
theorem crd_gcd : CRd cl X (.builtin "math.gcd") B.gcd := ⟨_, cr_gcd, fun A F H Q E ts vs ok e r o => by
  unfold B.gcd at o
  split at o
  · obtain ⟨v, w, rfl, r1, r2⟩ := reps2 r
    cases r1; cases r2
    exact ⟨_, _, rfl, Out.here o e rfl⟩
  · exact o.elim⟩
def rLcm : List V → Hp → VK → Prop := fun vs H Q => ∃ a b : Int, vs = [.int a, .int b] ∧ dfit a = true ∧ dfit b = true ∧ Q (.int ((Nat.lcm a.natAbs b.natAbs : Nat) : Int)) H
theorem cr_lcm : CallR X (.builtin "math.lcm") rLcm := by
  intro pins s σ H vs us Q I r h
  obtain ⟨a, b, rfl, h1, h2, q⟩ := h
  obtain ⟨t, u, rfl⟩ := Vals.int2 r
  exact lcm_raw (of_decide_eq_true h1) (of_decide_eq_true h2) ⟨.int _, H, I.tok _, ⟨_, rfl⟩, q⟩
theorem crd_lcm : CRd cl X (.builtin "math.lcm") B.lcm := ⟨_, cr_lcm, fun A F H Q E ts vs ok e r o => by
  unfold B.lcm at o
  split at o
  · obtain ⟨v, w, rfl, r1, r2⟩ := reps2 r
    cases r1; cases r2
    rename_i a b
    cases z : (dfit a && dfit b) with
    | false => rw [z] at o; exact o.elim
    | true =>
      rw [z] at o
      obtain ⟨z1, z2⟩ := band z
      exact ⟨a, b, rfl, z1, z2, Out.here o e rfl⟩
  · exact o.elim⟩
variable {d : Nat} {W : WX} {e : Expr} {es : List Expr} {a : P.Ax} {f : List T → Option T} {x : Str} {p1 pos : Pos} {id : String}
/-- a module's name for a built-in function -/
theorem de_bf (hr : CRd cl X (.builtin id) f) (hm : X.mg x = some (.builtin id)) (ha : DA cl X d W (e :: es) a) (hg : Gl X x := by rfl) (hdb : (x == ("__debug__" : Str)) = false := by decide)
    (he : starEach (e :: es) X.env = (false, eval e X.env) :: starEach es X.env := by rfl) (hpl : (backTo pos (starEach es X.env)).any (·.1) = false := by rfl) : DE cl X d W (.Call (.Name x p1) (e :: es) [] pos) (P.call (fun ts => .of (f ts)) a) := by
  obtain ⟨r, a1, a2⟩ := hr
  obtain ⟨t, c1, c2⟩ := ha
  exact ⟨_, pe_callBfun a1 hg hm c1 hdb he hpl, se_cb a2 c2⟩
theorem op_fdivNW : OpR X (binaryOp .FloorDiv) (rI (fun _ j => j ≠ 0 ∧ j.natAbs.log2 < 9000) fun i j => .int (i.fdiv j)) := opI fun _ _ _ _ _ _ _ hc q => floordiv_int hc.1 q (.inl (PyProof.noPylong_of_log2 hc.2))
theorem opD_fdivN : OpD X cl (binaryOp .FloorDiv) T.fdivN := opD_I (gt := fun i j => .int (i.fdiv j)) op_fdivNW (fun _ _ _ _ _ => rfl) fun x y t h => by
  obtain ⟨i, j, rfl, rfl, h⟩ := T.i2_some (f := fun i j => if decide (j ≠ 0) && dfit j then some (.int (i.fdiv j)) else none) (x := x) (y := y) (t := t) (by cases x <;> cases y <;> exact h)
  obtain ⟨c, rfl⟩ := if_some h
  obtain ⟨c1, c2⟩ := band c
  exact ⟨_, _, rfl, rfl, ⟨of_decide_eq_true c1, of_decide_eq_true c2⟩, rfl⟩
end
/-- a module's name for a built-in function, asked of the start -/
def bltB (x : Str) (id : String) (K : PySem.W.Frag) : Bool := eqO (PySem.W.nsIn K mainGlobals x) (some (some (.builtin id)))
theorem bltB_ok {K : PySem.W.Frag} {h : Heap} {mg : Str → Option Value} (X : K.In h) (G : h.Ns mainGlobals mg) {x : Str} {id : String} (c : bltB x id K = true) : mg x = some (.builtin id) := PySem.W.mg_of X G (eqO_ok c)
end Py

set_option Elab.async false
set_option linter.all false
set_option maxRecDepth 100000
set_option maxHeartbeats 4000000
namespace Py
open PySem L2 PySem.Spec PyProof.Rows Evl He RT
/-! ### list(reversed(xs)), xs a list -/
section
variable {prog : Program} {w : World} {A : Around} {E : Value → Shared → Prop} {s : Shared}
theorem list_rev_raw {it l : Addr} {items : Array Value} {Q : Value → Shared → Prop} (hh : A.handled = none) (hit : s.heap.IsRevIter it l ((items.size : Int) - 1)) (hl : s.heap.IsList l items) (hne : l ≠ it) (hn : items.size ≤ sizeLine)
    (hQ : ∀ (S : Addr) (h' : Heap) (tk : Nat) (acc : Array Value) (c : Nat), s.heap.objs.size ≤ S → (∀ b o, b ≠ it → s.heap.get? b = some o → h'.get? b = some o) → h'.get? S = some { cls := .type "list", data := .seq acc c } → ItemsOf (fun i v => items[items.size - 1 - i]? = some v) acc items.size →
      Q (.ref S) { s with heap := h', toks := tk }) :
    wpAny (model prog w) A (call (.type "list") [.ref it]) Q E s := by
  have W := (Walks.listRev (prog := prog) (w := w) (A := A.in1.in1) hh it l hne items).toS
  obtain ⟨oi, hoi, _⟩ := id hit
  obtain ⟨ol, hol, _⟩ := id hl
  have hSi : s.heap.objs.size ≠ it := Nat.ne_of_gt (Heap.lt_size hoi)
  have hSl : s.heap.objs.size ≠ l := Nat.ne_of_gt (Heap.lt_size hol)
  have hSf : s.heap.objs.size ∉ [it, l] := by simp only [List.mem_cons, List.not_mem_nil, or_false, not_or]; exact ⟨hSi, hSl⟩
  refine callType_codes (Q₁ := fun obj s₁ => obj = .ref s.heap.objs.size ∧ s₁ = { s with heap := s.heap.push { cls := .type "list", data := .seq #[] } }) PySem.F.called_list (PySem.F.typeCall_list_1 _) PySem.F.entry_list_init
    (code_list_new _ ⟨rfl, rfl⟩) fun obj s₁ h₁ => ?_
  obtain ⟨rfl, rfl⟩ := h₁
  have hS : (s.heap.push { cls := .type "list", data := .seq #[] }).get? s.heap.objs.size = some { cls := .type "list", data := .seq #[] } := Heap.get?_push_size _ rfl
  refine ⟨⟨_, hS, rfl⟩, PySem.F.args_list_init_2 _ _, ?_⟩
  show wpAny _ A.in1.in1 (do let old ← Builtin.List.listItems (.ref s.heap.objs.size); Builtin.List.listUpdate (.ref s.heap.objs.size) (fun _ => #[]); letGo old.toList.reverse; Builtin.List.listExtendWith (.ref s.heap.objs.size) (.ref it) .none) _ _ _
  refine wpAny_bind ?_
  unfold Builtin.List.listItems
  refine wpAny_bind (wpAny_seqItems hS rfl (wpAny_pure ?_))
  show wpAny _ A.in1.in1 (updateSeq s.heap.objs.size (fun _ => #[]) >>= fun _ => letGo (#[] : Array Value).toList.reverse >>= fun _ => Builtin.List.listExtendWith (.ref s.heap.objs.size) (.ref it) .none) _ _ _
  refine wpAny_bind (wpAny_updateSeq hS rfl ?_)
  have hS2 := Heap.get?_update_self (Obj.mapSeq (fun _ => (#[] : Array Value))) hS rfl
  refine wpAny_bind (wpAny_letGo ?_)
  unfold Builtin.List.listExtendWith
  have up : ∀ b o, s.heap.get? b = some o → ((s.heap.push { cls := .type "list", data := .seq #[] }).update s.heap.objs.size (Obj.mapSeq (fun _ => (#[] : Array Value)))).get? b = some o := fun b o e =>
    (Heap.get?_update_other _ _ (Ne.symm (Nat.ne_of_lt (Heap.lt_size e)))).trans (Heap.get?_push_of_some _ e)
  generalize hh2 : ((s.heap.push { cls := .type "list", data := .seq #[] }).update s.heap.objs.size (Obj.mapSeq (fun _ => (#[] : Array Value)))) = h2 at *
  have hit2 : h2.IsRevIter it l ((items.size : Int) - 1) := hit.at fun o e => up _ _ e
  have hl2 : h2.IsList l items := hl.at fun o e => up _ _ e
  have hT : ({ s with heap := h2 } : Shared).TypeIs (.ref it) "list_reverseiterator" := Heap.IsRevIter.typeIs (s := { s with heap := h2 }) hit2
  have h1 : Builtin.List.listSameRef (.ref s.heap.objs.size) (.ref it) = false := by simp [Builtin.List.listSameRef, hSi]
  refine wpAny_bind (wpAny_typeOf hT ?_)
  rw [if_neg (by rw [h1]; decide)]
  refine wpAny_bind (wpAny_pyIter_revIter (s := { s with heap := h2 }) hit2 ?_)
  refine wpAny_bind (wpAny_holding ?_)
  unfold Builtin.List.listLengthHint
  refine wpAny_bind (wpAny_specialOf hT nolen_lri ?_)
  show wpAny _ A.in1.in1 (specialOf (Value.ref it) (Str.ofString "__length_hint__") >>= _) _ _ _
  refine wpAny_bind (wpAny_specialOf hT hint_lri ?_)
  generalize hid : ("list_reverseiterator.__length_hint__" : String) = id0
  wp_delta
  rw [show splitId id0 = some ("list_reverseiterator", "__length_hint__") from by subst hid; decide +kernel]
  subst hid
  refine wpAny_bind (wpAny_isInstance (b := true) hT (by rw [isSubtype_type]; kernel_rfl) ?_)
  refine wpAny_pure ?_
  rw [if_neg (by decide)]
  have e0 : ((items.size : Nat) : Int) - 1 - ((0 : Nat) : Int) = (items.size : Int) - 1 := by omega
  refine wpAny_pure ⟨plainId_quiet PySem.F.plain_extend_loop _, codeAny_extend_loopS (A := A.in1) W hn _ hSf _ items.size 0 _ _ _ rfl (Nat.zero_le _) ⟨Nat.zero_le _, by rw [e0]; exact hit2, hl2⟩ hS2 (ItemsOf.nil _) fun s' acc' c' hm hS' hacc => ?_⟩
  rw [Moved.eq_with hm]
  refine ⟨rfl, hQ _ s'.heap s'.toks acc' c' (Nat.le_refl _) (fun b o hb e => hm.heap b o (fun hmem => ?_) (up b o e)) hS' hacc⟩
  rcases List.mem_cons.mp hmem with e' | hmem
  · exact absurd (Heap.lt_size e) (by rw [e']; exact Nat.lt_irrefl _)
  · exact hb (List.mem_singleton.mp hmem)
end
def tLstRev (K : PySem.W.Frag) (te : TE) : TE := fun σ H Q => te σ H fun v H1 => ∃ (a : Addr) (xs : List V), v = .ref a ∧ SqL K H1 a xs ∧ ∀ q, H1 q = none → Q (.ref q) (upd H1 q (.lst xs.reverse))
section
variable {X : Cx}
theorem pe_lstRev {e : Expr} {te : TE} {p p2 pos pos2 : Pos} (hc : X.calm = true) (hg : Gl X "list") (hm : X.mg "list" = none) (hg2 : Gl X "reversed") (hm2 : X.mg "reversed" = none) (he : PE X e te)
    (hs : starEach [e] X.env = (false, eval e X.env) :: starEach [] X.env := by rfl)
    (hs2 : starEach [.Call (.Name "reversed" p2) [e] [] pos2] X.env = (false, eval (.Call (.Name "reversed" p2) [e] [] pos2) X.env) :: starEach [] X.env := by rfl) :
    PE X (.Call (.Name "list" p) [.Call (.Name "reversed" p2) [e] [] pos2] [] pos) (tLstRev X.K te) := by
  refine ⟨fun pins s σ H Q I h => ?_⟩
  refine Call_ (ld_blt I hg hm boot_list (PyProof.Rows.callWith_type1 (args_cons (Call_ (ld_blt I hg2 hm2 PyProof.Rows.boot_reversed (PyProof.Rows.callWith_type1 (args_cons (thn (he.run pins s σ H _ I h) fun u s1 ⟨v, H1, I1, r1, q1⟩ => args_nil ?_) hs) hs rfl))) hs2) hs2 rfl))
  obtain ⟨a, xs, ev, hq, q⟩ := q1
  subst ev
  obtain rfl : u = Value.ref a := r1
  obtain ⟨its, rv, p', hz⟩ := I1.list hq
  refine call_reversed_list p'.isList (args_nil ?_)
  have hl := p'.isList
  obtain ⟨ol, hol, _⟩ := id hl
  have hne : a ≠ s1.heap.objs.size := Nat.ne_of_lt (Heap.lt_size hol)
  have hn : its.toArray.size ≤ sizeLine := by rw [List.size_toArray, ← rv.length]; exact hz
  refine list_rev_raw (s := { s1 with heap := s1.heap.push (revObj a ((its.toArray.size : Int) - 1)) }) (I1.ok.hd hc) ⟨_, Heap.get?_push_size _ rfl, rfl, rfl⟩ (hl.push _) hne hn fun S h' tk acc c hS hk hD hi => ?_
  have hS2 : s1.heap.objs.size ≤ S := Nat.le_trans (by show s1.heap.objs.size ≤ (s1.heap.push _).objs.size; rw [Heap.size_push]; exact Nat.le_succ _) hS
  refine ⟨.ref S, upd H1 S (.lst xs.reverse), I1.laid (t' := tk) (fun b o e => hk b o (Nat.ne_of_lt (Heap.lt_size e)) (Heap.get?_push_of_some _ e)) hS2 (show ObjOk X.prog X.w _ _ _ (.lst xs.reverse) from ⟨by rw [List.length_reverse]; exact hz, acc.toList, c, vals_rev rv hi, ?_⟩), rfl, q _ (I1.hok.fresh hS2)⟩
  rw [Array.toArray_toList]
  exact hD
end
def T.revL : T → Option T
  | .lst _ ts => some (.lst none ts.reverse)
  | .ro ts => some (.lst none ts.reverse)
  | _ => none
section
variable {cl : Cl} {X : Cx} {d : Nat} {W : WX} {e : Expr} {p : P.Ex1} {p1 p2 pos pos2 : Pos}
theorem de_lstRev (hm : X.mg "list" = none) (hm2 : X.mg "reversed" = none) (h : DE cl X d W e p) (hc : X.calm = true := by rfl) (hg : Gl X "list" := by rfl) (hg2 : Gl X "reversed" := by rfl) (hs : starEach [e] X.env = (false, eval e X.env) :: starEach [] X.env := by rfl)
    (hs2 : starEach [.Call (.Name "reversed" p2) [e] [] pos2] X.env = (false, eval (.Call (.Name "reversed" p2) [e] [] pos2) X.env) :: starEach [] X.env := by rfl) : DE cl X d W (.Call (.Name "list" p1) [.Call (.Name "reversed" p2) [e] [] pos2] [] pos) (P.un T.revL p) := by
  obtain ⟨te, a1, a2⟩ := h
  refine ⟨_, pe_lstRev hc hg hm hg2 hm2 a1 hs hs2, fun A env σ F H Q R e o => a2 A env σ F H _ R e (Outg.bind o fun y w F1 H1 g1 rx o1 => ?_)⟩
  unfold T.revL at o1
  cases y with
  | lst g ts =>
    obtain ⟨a, vs, rfl, h1, h2, h3⟩ := rx
    exact ⟨a, vs, rfl, .of (g1.sub _ _ h1), fun q hq => Out.lst o1 (R.ok.mono g1.ex) g1.sub h3.reverse q hq⟩
  | ro ts =>
    obtain ⟨a, vs, rfl, h1, h3⟩ := rx
    exact ⟨a, vs, rfl, ex_l g1.sub h1, fun q hq => Out.lst o1 (R.ok.mono g1.ex) g1.sub h3.reverse q hq⟩
  | _ => exact o1.elim
end
end Py

set_option Elab.async false
set_option linter.all false
set_option maxRecDepth 100000
set_option maxHeartbeats 4000000
namespace Py
open PySem L2 PySem.Spec PyProof.Rows Evl He
/-! ### defs with defaults; calls without an argument -/
section
variable {cl : Cl} {P : Program} {w : World} {K : PySem.W.Frag} {mg : Str → Option Value} {base : Heap}
theorem def_okD {x qual : Str} {params : Arguments} {body : List Stmt} {scope : Scope} {dvs : List V} {kws : List (Str × V)} {f : Addr} {fd : FuncData} {N ps : List Str} {k n : Nat} {fT : Nat → List T → Res T} {sT : Nat → Sx}
    (F : FunD K x qual params body scope dvs kws f fd) (S : FnScope N ps scope) (hn : n = ps.length) (hle : ps.length ≤ N.length) (p0 : cl.pin = none) (hf : ∀ d ts, fT d ts = run N.length (sT d) ts)
    (h : ∀ (d : Nat) (cdv : Value) (A : Around) (outer : List Env) (s : Shared) (H : Hp) (E : XK), Room k (A.deeper (envOfC qual scope s.heap.objs.size f cdv)) → DB cl (XOf P w K mg base N qual scope f cdv A outer s H E) d (WOf E) body (sT d)) :
    FnOk P w K mg base (L2.CX P w) (k + 1) f fd ps (spT ⟨K, cl⟩ n fT) := by
  subst hn
  refine F.ok S (fun vs H Q E h => h.1) (fun cdv A outer s H vs Q E hr hsp => ?_)
  obtain ⟨hl, d, A0, F0, ts, ok, dep, e, r, o⟩ := hsp
  obtain ⟨t, a1, a2⟩ := h d cdv A outer s H E hr
  refine ⟨t, a1, body_ok (N := N) a2 ok dep e r (by rw [← r.length, hl]; exact hle) p0 ?_⟩
  rw [← hf]
  exact o
/-- a def called with less than all: dts fill up -/
structure DokD (cl : Cl) (P : Program) (w : World) (K : PySem.W.Frag) (mg : Str → Option Value) (base : Heap) (x : Str) (k n m : Nat) (dts : List T) (f : Nat → List T → Res T) : Prop where
  ex : ∃ fa fd ps dvs ds, FnOk P w K mg base (L2.CX P w) k fa fd ps (spT ⟨K, cl⟩ n f) ∧ Binds K fd ps ds ∧ Vals dvs ds ∧ (∀ A F, reps ⟨K, cl⟩ A F dts dvs) ∧ n = m + dts.length ∧ PySem.W.keepIn K (.ref fa) = true ∧ mg x = some (.ref fa)
abbrev FnPD (K : PySem.W.Frag) (x : Str) (st : Stmt) (dvs : List V) (f : Addr) (fd : FuncData) : Prop := FunD K x x (defArgs st) (defBody st) (defScope st) dvs [] f fd
theorem dokA_of {x : Str} {st : Stmt} {f : Addr} {fd : FuncData} {N ps : List Str} {k n : Nat} {dvs : List V} {fT : Nat → List T → Res T} {sT : Nat → Sx}
    (F : FnPD K x st dvs f fd) (S : FnScope N ps (defScope st)) (hn : n = ps.length) (hle : ps.length ≤ N.length) (p0 : cl.pin = none) (hm : mg x = some (.ref f)) (hf : ∀ d ts, fT d ts = run N.length (sT d) ts) (hd : dvs ≠ [])
    (hb : ∀ (T : Addr) (kV doc pm : Value) (an : Option Addr) (cdv ct : Value) (us its : List Value), us.length = ps.length → its.length = dvs.length →
      ∃ k, bindArgs (PySem.W.fnOf x x (defArgs st) (defBody st) (defScope st) (.ref T) kV doc pm an cdv ct) ⟨us, []⟩ = seqItems? (.ref T) >>= k ∧ k (some its.toArray) = pure (ps.zip (us ++ its.drop dvs.length)))
    (h : ∀ (d : Nat) (cdv : Value) (A : Around) (outer : List Env) (s : Shared) (H : Hp) (E : XK), Room k (A.deeper (envOfC x (defScope st) s.heap.objs.size f cdv)) → DB cl (XOf P w K mg base N x (defScope st) f cdv A outer s H E) d (WOf E) (defBody st) (sT d)) :
    Dok cl P w K mg base x (k + 1) n fT := by
  obtain ⟨ds, v, b⟩ := F.binds1 (ps := ps) ps.length dvs.length hd (by omega) hb
  rw [List.drop_length] at v
  cases v
  exact ⟨f, fd, ps, def_okD F S hn hle p0 hf h, b, F.kp, hm⟩
theorem dokD_of {x : Str} {st : Stmt} {f : Addr} {fd : FuncData} {N ps : List Str} {k n m j : Nat} {dts : List T} {dvs : List V} {fT : Nat → List T → Res T} {sT : Nat → Sx}
    (F : FnPD K x st dvs f fd) (S : FnScope N ps (defScope st)) (hn : n = ps.length) (hle : ps.length ≤ N.length) (p0 : cl.pin = none) (hm : mg x = some (.ref f)) (hf : ∀ d ts, fT d ts = run N.length (sT d) ts) (hd : dvs ≠ [])
    (hr : ∀ A F, reps ⟨K, cl⟩ A F dts (dvs.drop j)) (hnm : n = m + dts.length) (hj : m + (dvs.length - j) = ps.length)
    (hb : ∀ (T : Addr) (kV doc pm : Value) (an : Option Addr) (cdv ct : Value) (us its : List Value), us.length = m → its.length = dvs.length →
      ∃ k, bindArgs (PySem.W.fnOf x x (defArgs st) (defBody st) (defScope st) (.ref T) kV doc pm an cdv ct) ⟨us, []⟩ = seqItems? (.ref T) >>= k ∧ k (some its.toArray) = pure (ps.zip (us ++ its.drop j)))
    (h : ∀ (d : Nat) (cdv : Value) (A : Around) (outer : List Env) (s : Shared) (H : Hp) (E : XK), Room k (A.deeper (envOfC x (defScope st) s.heap.objs.size f cdv)) → DB cl (XOf P w K mg base N x (defScope st) f cdv A outer s H E) d (WOf E) (defBody st) (sT d)) :
    DokD cl P w K mg base x (k + 1) n m dts fT := by
  obtain ⟨ds, v, b⟩ := F.binds1 (ps := ps) m j hd hj hb
  exact ⟨f, fd, ps, _, ds, def_okD F S hn hle p0 hf h, b, v, hr, hnm, F.kp, hm⟩
end
def P.appC (dts : List T) (a : P.Ax) : P.Ax := fun env => (a env).bind fun xs => .ok (xs ++ dts)
section
variable {G : Ge} {d : Nat} {W : WX} {ta : TA} {a : P.Ax}
theorem reps_app {A : Al} {F : Hp} : ∀ {ts us : List T} {vs ws : List V}, reps G A F ts vs → reps G A F us ws → reps G A F (ts ++ us) (vs ++ ws)
  | [], us, vs, ws, h, h2 => by
    have e : vs = [] := h
    subst e
    exact h2
  | t :: ts, us, vs, ws, h, h2 => by
    obtain ⟨v, vs', rfl, r, h'⟩ := h
    exact ⟨v, vs' ++ ws, rfl, r, reps_app h' h2⟩
theorem sa_app {dts : List T} {dvs : List V} (hr : ∀ A F, reps G A F dts dvs) (h : SA G d W ta a) : SA G d W (fun σ H R => ta σ H fun vs H1 => R (vs ++ dvs) H1) (P.appC dts a) := fun A env σ F H Q R e o =>
  h A env σ F H _ R e (Outg.bind o fun xs vs F1 H1 g1 rs o1 => OutA.here o1 g1.sub (reps_app rs (hr A F1)))
end
section
variable {cl : Cl} {X : Cx} {d k n m : Nat} {W : WX} {e : Expr} {es : List Expr} {a : P.Ax} {x : Str} {f : Nat → List T → Res T} {p1 pos : Pos} {dts : List T}
theorem de_dD (D : DokD cl X.prog X.w X.K X.mg X.base x k n m dts f) (hr : Room k X.A) (ha : DA cl X d W (e :: es) a) (hn : ∀ env xs, a env = .ok xs → xs.length = m) (tk : Takes X W := by first | exact tk_of | exact takes0) (hg : Gl X x := by rfl) (hdb : (x == ("__debug__" : Str)) = false := by decide)
    (he : starEach (e :: es) X.env = (false, eval e X.env) :: starEach es X.env := by rfl) (hpl : (backTo pos (starEach es X.env)).any (·.1) = false := by rfl) : DE cl X d W (.Call (.Name x p1) (e :: es) [] pos) (P.call (f (d + 1)) (P.appC dts a)) := by
  obtain ⟨fa, fd, ps, dvs, ds, F, hb, hv, hre, hnm, hk, hm⟩ := D
  obtain ⟨t, c1, c2⟩ := ha
  refine ⟨_, pe_callSD F hr hg hm hk hb hv (fun σ => passAt tk σ) c1 hdb he hpl, ?_⟩
  have s := se_call (n := n) (f := f) (E := WE W) rfl (fun env xs h => by
    unfold P.appC at h
    cases z : a env with
    | ok ys =>
      rw [z] at h
      cases h
      rw [List.length_append, hn env ys z, hnm]
    | er e => rw [z] at h; cases h
    | stuck => rw [z] at h; cases h) (sa_app (G := ⟨X.K, cl⟩) hre c2)
  exact s
/-- f() -/
theorem pe_callS0 {CX : CXT} {fa : Addr} {fd : FuncData} {ps : List Str} {sp : Sp} {E : L2.St → XK} (F : FnOk X.prog X.w X.K X.mg X.base CX k fa fd ps sp) (hr : Room k X.A) (hg : Gl X x) (hm : X.mg x = some (.ref fa)) (hk : PySem.W.keepIn X.K (.ref fa) = true) (hb : Binds X.K fd ps []) (hx : ∀ σ, PassesAt CX X σ (E σ))
    (hdb : (x == ("__debug__" : Str)) = false := by decide) : PE X (.Call (.Name x p1) [] [] pos) (tCallS sp E tNil) := by
  refine ⟨fun pins s σ H Q I h => ?_⟩
  refine wpAny_Call_Name_kw (ld_glob I hg hm ?_ hdb)
  exact PySem.W.callWith_K0 I.kIn hk (run_fnS (us := []) F hr hb (hx σ) I .nil h)
theorem de_d0 (D : Dok cl X.prog X.w X.K X.mg X.base x k 0 f) (hr : Room k X.A) (tk : Takes X W := by first | exact tk_of | exact takes0) (hg : Gl X x := by rfl) (hdb : (x == ("__debug__" : Str)) = false := by decide) : DE cl X d W (.Call (.Name x p1) [] [] pos) (P.call (f (d + 1)) P.nil) := by
  obtain ⟨fa, fd, ps, F, hb, hk, hm⟩ := D
  exact ⟨_, pe_callS0 F hr hg hm hk hb (fun σ => passAt tk σ) hdb, se_call rfl n_nil (fun A env σ F H Q R e o => OutA.here o e rfl)⟩
end
/-! ### text * int -/
def T.mulS : T → T → Option T
  | .str x, .int n => if decide (0 ≤ n) && decide (n ≤ 1000) && decide (x.length ≤ 1000) then some (.str (Txt.mul x n)) else none
  | _, _ => none
section
variable {cl : Cl} {X : Cx}
theorem op_mulS : OpR X (binaryOp .Mult) (fun x y H Q => ∃ i n, x = .str i ∧ y = .int n ∧ MulOk i n ∧ Q (.str (Txt.mul i n)) H) := by
  intro pins s σ H x y v u Q I rx ry h
  obtain ⟨i, j, rfl, rfl, hok, q⟩ := h
  obtain ⟨t, rfl⟩ := rx
  obtain ⟨t', rfl⟩ := ry
  exact SB.mul hok fun t' k => ⟨.str _, H, I.kept (fun _ _ e => e), ⟨_, rfl⟩, q⟩
theorem opD_mulS : OpD X cl (binaryOp .Mult) T.mulS := ⟨_, op_mulS, fun A F H Q E x y v w ok e rx ry o => by
  cases x <;> (try exact o.elim)
  cases y <;> (try exact o.elim)
  rename_i x n
  cases rx
  cases ry
  have o' : Out _ A F H Q E (.of (if decide (0 ≤ n) && decide (n ≤ 1000) && decide (x.length ≤ 1000) then some (.str (Txt.mul x n)) else none)) := o
  cases z : (decide (0 ≤ n) && decide (n ≤ 1000) && decide (x.length ≤ 1000)) with
  | false => rw [z] at o'; exact o'.elim
  | true =>
    rw [z] at o'
    obtain ⟨z, z3⟩ := band z
    obtain ⟨z1, z2⟩ := band z
    have z1 := of_decide_eq_true z1
    have z2 := of_decide_eq_true z2
    have z3 := of_decide_eq_true z3
    exact ⟨_, _, rfl, rfl, mulOk_of 1000 1000 z3 z2 (by omega) (by decide) (by decide), Out.here o' e rfl⟩⟩
end
end Py

set_option Elab.async false
set_option linter.all false
set_option maxRecDepth 100000
set_option maxHeartbeats 4000000
namespace Py
open PySem L2 PySem.Spec PyProof.Rows Evl He
/-! ### sorted of any comparable data (tuples of any length, texts, numbers) -/
def pdX (t : T) : PyData := (T.pd t).getD .none
def srtX (ts : List T) : List T := ts.mergeSort (PySem.W.dataLe false pdX)
/-- all of one kind, each tuple with an item at least -/
def tupX : PyData → Bool
  | .tuple (_ :: _) => true
  | _ => false
def othX : PyData → Bool
  | .none => false
  | .tuple _ => false
  | _ => true
def canX (ds : List PyData) : Bool := ds.all (fun d => ds.all fun e => PySem.W.alike d e) && (ds.all tupX || ds.all othX) && ds.all fun d => decide (d.depth ≤ 60)
def B.sortedX : List T → Option T
  | [.lst _ ts] => match T.pds ts with
    | some ds => if canX ds then some (.lst none (srtX ts)) else none
    | none => none
  | _ => none
theorem pds_pdX : ∀ {ts : List T} {ds : List PyData}, T.pds ts = some ds → ts.map pdX = ds ∧ ∀ t ∈ ts, T.pd t = some (pdX t)
  | [], ds, h => by cases h; exact ⟨rfl, fun t ht => by cases ht⟩
  | t :: ts, ds, h => by
    have h' : (match T.pd t, T.pds ts with | some d, some ds => some (d :: ds) | _, _ => none) = some ds := h
    cases q : T.pd t with
    | none => rw [q] at h'; cases h'
    | some d =>
      cases q2 : T.pds ts with
      | none => rw [q, q2] at h'; cases h'
      | some ds2 =>
        rw [q, q2] at h'
        cases h'
        obtain ⟨k1, k2⟩ := pds_pdX q2
        have e : pdX t = d := by unfold pdX; rw [q]; rfl
        refine ⟨by rw [List.map_cons, e, k1], fun u hu => ?_⟩
        rcases List.mem_cons.mp hu with z | z
        · subst z; rw [q, e]
        · exact k2 u z
theorem canX_spec {ds : List PyData} (h : canX ds = true) : PySem.W.AllAlike ds ∧ PySem.W.Sortable ds ∧ ∀ d ∈ ds, d.depth ≤ 60 := by
  unfold canX at h
  obtain ⟨h, h3⟩ := band h
  obtain ⟨h1, h2⟩ := band h
  refine ⟨fun d hd e he => List.all_eq_true.mp (List.all_eq_true.mp h1 d hd) e he, ?_, fun d hd => of_decide_eq_true (List.all_eq_true.mp h3 d hd)⟩
  rcases Bool.or_eq_true _ _ ▸ h2 with z | z
  · exact .inl fun d hd => by
      have := List.all_eq_true.mp z d hd
      unfold tupX at this
      split at this
      · exact ⟨_, _, rfl⟩
      · cases this
  · exact .inr fun d hd => by
      have := List.all_eq_true.mp z d hd
      cases d <;> (try cases this) <;> exact ⟨nofun, nofun⟩
section
variable {cl : Cl} {X : Cx}
/-- the value stands for the tree -/
def RvT (G : Ge) (A : Al) (F : Hp) (u : Value) (t : T) : Prop := ∃ v, RelV v u ∧ rep G A F t v
theorem each_reps {G : Ge} {A : Al} {F : Hp} : ∀ {ts : List T} {vs : List V} {us : List Value}, reps G A F ts vs → Vals vs us → PySem.W.EachIs (RvT G A F) us ts
  | [], vs, us, h, r => by
    have h' : vs = [] := h
    subst h'
    cases r
    exact .nil
  | t :: ts, vs, us, ⟨v, ws, h1, h2, h3⟩, r => by
    subst h1
    cases r with
    | cons r1 r2 => exact .cons ⟨v, r1, h2⟩ (each_reps h3 r2)
theorem reps_each {G : Ge} {A : Al} {F : Hp} : ∀ {ts : List T} {us : List Value}, PySem.W.EachIs (RvT G A F) us ts → ∃ vs, reps G A F ts vs ∧ Vals vs us
  | _, _, .nil => ⟨[], rfl, .nil⟩
  | t :: ts, _, .cons ⟨v, r1, r2⟩ h => by
    obtain ⟨vs, k1, k2⟩ := reps_each h
    exact ⟨v :: vs, ⟨v, vs, rfl, r2, k1⟩, .cons r1 k2⟩
def rSortX (G : Ge) : List V → Hp → VK → Prop := fun vs H Q => ∃ (A : Al) (F : Hp) (a : Addr) (xs : List V) (ts : List T) (ds : List PyData), vs = [V.ref a] ∧ H a = some (.lst xs) ∧ Ex F H ∧ reps G A F ts xs ∧ T.pds ts = some ds ∧ canX ds = true ∧
  ∀ ys p, reps G A F (srtX ts) ys → H p = none → Q (.ref p) (upd H p (.lst ys))
theorem cr_sortX (hu : X.A.units + 64 < cLine) : CallR X (.builtin "sorted") (rSortX ⟨X.K, cl⟩) := by
  intro pins s σ H vs us Q I r h
  obtain ⟨A, F, a, xs, ts, ds, rfl, hs, ex, hr, hp, hc, q⟩ := h
  obtain ⟨its, rv, hl, hz⟩ := I.list (SqL.of hs)
  rw [Vals.ref1 r]
  obtain ⟨c1, c2, c3⟩ := canX_spec hc
  obtain ⟨m1, m2⟩ := pds_pdX hp
  have hlen : ts.length = xs.length := by rw [hr.length]
  refine PySem.W.sorted_data (R := RvT ⟨X.K, cl⟩ A F) (bs := ts) (enc := pdX) hl.isList (by simpa using each_reps hr rv) ?_ (by rw [m1]; exact c1) (by rw [m1]; exact c2) (by rw [hlen]; exact hz) (fun b hb => ?_) fun out h1 h2 => ?_
  · have : ∀ {us : List T} {vs : List V} {ws : List Value}, (∀ t ∈ us, T.pd t = some (pdX t)) → reps ⟨X.K, cl⟩ A F us vs → Vals vs ws → PySem.W.EachIs (fun v b => ∃ as, Reads s.heap v (pdX b) as) ws us := fun {us} => by
      induction us with
      | nil =>
        intro vs ws _ h r
        have h' : vs = [] := h
        subst h'
        cases r
        exact .nil
      | cons t us ih =>
        intro vs ws hm h r
        obtain ⟨v, vs2, e1, e2, e3⟩ := h
        subst e1
        cases r with
        | cons r1 r2 => exact .cons (Dp.reads I _ v _ (dp_mono ex (dp_of e2 (hm t List.mem_cons_self))) r1) (ih (fun u hu => hm u (List.mem_cons_of_mem _ hu)) e3 r2)
    simpa using this m2 hr rv
  · have := c3 (pdX b) (by rw [← m1]; exact List.mem_map.mpr ⟨b, hb, rfl⟩)
    omega
  · obtain ⟨ys, k1, k2⟩ := reps_each h2
    obtain ⟨ep, he'⟩ := PyProof.Rows.sortedAll_at s.heap its out.toArray
    have hl2 : ys.length ≤ sizeLine := by
      rw [k1.length, List.length_mergeSort, hlen]
      exact hz
    exact ⟨.ref _, upd H (s.heap.objs.size + 1) (.lst ys), I.laid (t' := s.toks) (fun _ _ => PyProof.Rows.sortedAll_old) (Nat.le_succ _) ⟨hl2, out, ep, k2, he'⟩, rfl, q _ _ k1 (I.hok.fresh (Nat.le_succ _))⟩
theorem crd_sortedX (hu : X.A.units + 64 < cLine) : CRd cl X (.builtin "sorted") B.sortedX := ⟨_, cr_sortX hu, fun A F H Q E ts vs ok e r o => by
  unfold B.sortedX at o
  split at o
  · rename_i g us
    obtain ⟨v, rfl, a, ws, rfl, h1, h2, h3⟩ := reps1 r
    cases z : T.pds us with
    | none => simp only [z] at o; exact o.elim
    | some ds =>
      simp only [z] at o
      by_cases c : canX ds = true
      · rw [if_pos c] at o
        exact ⟨A, F, a, ws, us, ds, rfl, e _ _ h1, e, h3, z, c, fun ys p hy hp => Out.lst o ok e hy p hp⟩
      · rw [if_neg c] at o
        exact o.elim
  · exact o.elim⟩
end
end Py

set_option Elab.async false
set_option linter.all false
set_option maxRecDepth 100000
set_option maxHeartbeats 4000000
namespace Py
open PySem L2 PySem.Spec PyProof.Rows Evl He
/-! ### C(e, ..) whose __init__ has defaults -/
def tMkSD (C : Addr) (sp : Sp) (dvs : List V) (E : L2.St → XK) (t : TA) : TE := tMkS C sp E (fun σ H R => t σ H fun ws H1 => R (ws ++ dvs) H1)
section
variable {X : Cx} {k : Nat} {fI C : Addr} {fd : FuncData} {ps : List Str} {sp : Sp} {E : L2.St → XK} {dvs : List V} {ds : List Value}
theorem run_mkSD {pl : List (Addr × Obj)} {σ : L2.St} {H : Hp} {s : Shared} {Q : VK} {us : List Value} {ws : List V} (M : Mk X.K C fI) (F : FnOk X.prog X.w X.K X.mg X.base (L2.CX X.prog X.w) k fI fd ps sp) (hr : Room (k + 1) X.A) (hb : Binds X.K fd ps ds) (hd : Vals dvs ds)
    (hx : PassesAt (L2.CX X.prog X.w) X σ (E σ)) (I : Inv X pl σ H s) (r : Vals ws us) (h : ∀ p q, H p = none → H q = none → q ≠ p → sp (.ref p :: (ws ++ dvs)) (upd (upd H q (.own p)) p (.ins C q [])) (fun v H2 => v = .non ∧ Q (.ref p) H2) (E σ)) :
    wpAny (model X.prog X.w) X.A (call (.ref C) us) (EP X pl σ Q) X.xe s := by
  have h1 : H (s.heap.objs.size + 1) = none := I.hok.fresh (Nat.le_succ _)
  have h2 : H s.heap.objs.size = none := I.hok.fresh (Nat.le_refl _)
  have w := h _ _ h1 h2 (Nat.ne_of_lt (Nat.lt_succ_self _))
  have J := Inv.made (C := C) I
  have rr : Vals (V.ref (s.heap.objs.size + 1) :: (ws ++ dvs)) (Value.ref (s.heap.objs.size + 1) :: us ++ ds) := .cons rfl (r.append hd)
  have len : (Value.ref (s.heap.objs.size + 1) :: us ++ ds).length = ps.length := by rw [← rr.length]; exact F.len _ _ _ _ w
  have bnd := hb _ (Value.ref (s.heap.objs.size + 1) :: us) J.kIn len
  have go := F.run _ X.stack _ _ ⟨Value.ref (s.heap.objs.size + 1) :: us, []⟩ _ _ _ (E σ) (hr.make C us []) (J.env0.make C us []) bnd rr w
  refine wpAny_call (make_map (f := fI) I.kIn M.makes M.init (beq_iff_eq.mp M.fn) (codeAny_mono go fun res s' q => ?_))
  match res, q with
  | .error e, q => exact hx pl _ _ e s' J q
  | .ok (.ret u), q =>
    obtain ⟨v, H', J3, rv, ev, w3⟩ := J.after q
    subst ev
    exact ⟨rv, ⟨V.ref (s.heap.objs.size + 1), H', J3, rfl, w3⟩⟩
  | .ok .next, q => exact q.elim
  | .ok .brk, q => exact q.elim
  | .ok .cont, q => exact q.elim
theorem pe_mkSD {x : Str} {e : Expr} {es : List Expr} {t : TA} {p pos : Pos} (M : Mk X.K C fI) (F : FnOk X.prog X.w X.K X.mg X.base (L2.CX X.prog X.w) k fI fd ps sp) (hr : Room (k + 1) X.A) (hg : Gl X x) (hm : X.mg x = some (.ref C)) (hb : Binds X.K fd ps ds) (hd : Vals dvs ds)
    (hx : ∀ σ, PassesAt (L2.CX X.prog X.w) X σ (E σ)) (ha : PA X (e :: es) t) (hdb : (x == ("__debug__" : Str)) = false) (he : starEach (e :: es) X.env = (false, eval e X.env) :: starEach es X.env) (hpl : (backTo pos (starEach es X.env)).any (·.1) = false) :
    PE X (.Call (.Name x p) (e :: es) [] pos) (tMkSD C sp dvs E t) := by
  refine ⟨fun pl s σ H Q I h => wpAny_Call_Name_kw (ld_glob I hg hm (PySem.W.callWith_K (h₀ := X.base) I.ok.mod.kin M.kp (thn (ha.run pos pl s σ H _ I h) ?_) he hpl) hdb)⟩
  rintro us s1 ⟨ws, H1, I1, r, q⟩
  exact ⟨I1.kIn, run_mkSD M F hr hb hd (hx σ) I1 r q⟩
end
structure IokD (cl : Cl) (P : Program) (w : World) (K : PySem.W.Frag) (mg : Str → Option Value) (base : Heap) (x : Str) (c k n m : Nat) (dts : List T) (f : Nat → List T → Res Fld) : Prop where
  ex : ∃ fI fd ps dvs ds, Mk K (cl.f c) fI ∧ FnOk P w K mg base (L2.CX P w) k fI fd ps (spI ⟨K, cl⟩ c n f) ∧ Binds K fd ps ds ∧ Vals dvs ds ∧ (∀ A F, reps ⟨K, cl⟩ A F dts dvs) ∧ n = m + dts.length ∧ mg x = some (.ref (cl.f c))
section
variable {cl : Cl} {X : Cx} {d c k n m : Nat} {W : WX} {e : Expr} {es : List Expr} {a : P.Ax} {x : Str} {f : Nat → List T → Res Fld} {p1 pos : Pos} {dts : List T}
theorem de_makeD (D : IokD cl X.prog X.w X.K X.mg X.base x c k n m dts f) (hr : Room (k + 1) X.A) (ha : DA cl X d W (e :: es) a) (hn : ∀ env xs, a env = .ok xs → xs.length = m) (tk : Takes X W := by first | exact tk_of | exact takes0) (hg : Gl X x := by rfl) (hdb : (x == ("__debug__" : Str)) = false := by decide)
    (he : starEach (e :: es) X.env = (false, eval e X.env) :: starEach es X.env := by rfl) (hpl : (backTo pos (starEach es X.env)).any (·.1) = false := by rfl) : DE cl X d W (.Call (.Name x p1) (e :: es) [] pos) (P.make c (f (d + 1)) (P.appC dts a)) := by
  obtain ⟨fI, fd, ps, dvs, ds, M, F, hb, hv, hre, hnm, hm⟩ := D
  obtain ⟨t, c1, c2⟩ := ha
  exact ⟨_, pe_mkSD M F hr hg hm hb hv (fun σ => passAt tk σ) c1 hdb he hpl, se_make (fun env xs h => by
    unfold P.appC at h
    cases z : a env with
    | ok ys =>
      rw [z] at h
      cases h
      rw [List.length_append, hn env ys z, hnm]
    | er e => rw [z] at h; cases h
    | stuck => rw [z] at h; cases h) (sa_app (G := ⟨X.K, cl⟩) hre c2)⟩
end
section
variable {cl : Cl} {P : Program} {w : World} {K : PySem.W.Frag} {mg : Str → Option Value} {base : Heap} {x qual : Str} {params : Arguments} {body : List Stmt} {scope : Scope} {fI : Addr} {fd : FuncData} {N ps : List Str} {k n m j c : Nat} {dvs : List V} {dts : List T} {fT : Nat → List T → Res Fld} {sT : Nat → Sx}
theorem init_okD (F : FunD K "__init__" qual params body scope dvs [] fI fd) (S : FnScope N ps scope) (hn : n + 1 = ps.length) (hle : ps.length ≤ N.length) (p0 : cl.pin = none) (hf : ∀ d ts, fT d ts = runI N.length c (sT d) ts)
    (h : ∀ (d : Nat) (a : Addr) (cdv : Value) (A : Around) (outer : List Env) (s : Shared) (H : Hp) (E : XK), Room k (A.deeper (envOfC qual scope s.heap.objs.size fI cdv)) → DB (cl.pinned (some (d, a))) (XOf P w K mg base N qual scope fI cdv A outer s H E) d (WOf E) body (sT d)) :
    FnOk P w K mg base (L2.CX P w) (k + 1) fI fd ps (spI ⟨K, cl⟩ c n fT) := by
  refine F.ok S (fun vs H Q E h => ?_) (fun cdv A outer s H vs Q E hr hsp => ?_)
  · obtain ⟨a, dx, ws, rfl, hl, _⟩ := h
    rw [List.length_cons, hl, hn]
  · obtain ⟨a, dx, ws, rfl, hl, ha, d, A0, F0, ts, ok, dep, e, hF, r, o⟩ := hsp
    obtain ⟨t, a1, a2⟩ := h d a cdv A outer s H E hr
    refine ⟨t, a1, bodyI_ok (N := N) a2 ok dep e ha hF r (by rw [← r.length, hl, hn]; exact hle) p0 ?_⟩
    rw [← hf]
    exact o
theorem iokA_of (M : Mk K (cl.f c) fI) (hm : mg x = some (.ref (cl.f c))) (F : FunD K "__init__" qual params body scope dvs [] fI fd) (S : FnScope N ps scope) (hn : n + 1 = ps.length) (hle : ps.length ≤ N.length) (p0 : cl.pin = none) (hf : ∀ d ts, fT d ts = runI N.length c (sT d) ts) (hd : dvs ≠ [])
    (hb : ∀ (T : Addr) (kV doc pm : Value) (an : Option Addr) (cdv ct : Value) (us its : List Value), us.length = ps.length → its.length = dvs.length →
      ∃ k, bindArgs (PySem.W.fnOf "__init__" qual params body scope (.ref T) kV doc pm an cdv ct) ⟨us, []⟩ = seqItems? (.ref T) >>= k ∧ k (some its.toArray) = pure (ps.zip (us ++ its.drop dvs.length)))
    (h : ∀ (d : Nat) (a : Addr) (cdv : Value) (A : Around) (outer : List Env) (s : Shared) (H : Hp) (E : XK), Room k (A.deeper (envOfC qual scope s.heap.objs.size fI cdv)) → DB (cl.pinned (some (d, a))) (XOf P w K mg base N qual scope fI cdv A outer s H E) d (WOf E) body (sT d)) :
    Iok cl P w K mg base x c (k + 1) n fT := by
  obtain ⟨ds, v, b⟩ := F.binds1 (ps := ps) ps.length dvs.length hd (by omega) hb
  rw [List.drop_length] at v
  cases v
  exact ⟨fI, fd, ps, M, init_okD F S hn hle p0 hf h, b, hm⟩
theorem iokD_of (M : Mk K (cl.f c) fI) (hm : mg x = some (.ref (cl.f c))) (F : FunD K "__init__" qual params body scope dvs [] fI fd) (S : FnScope N ps scope) (hn : n + 1 = ps.length) (hle : ps.length ≤ N.length) (p0 : cl.pin = none) (hf : ∀ d ts, fT d ts = runI N.length c (sT d) ts) (hd : dvs ≠ [])
    (hr : ∀ A F, reps ⟨K, cl⟩ A F dts (dvs.drop j)) (hnm : n = m + dts.length) (hj : m + 1 + (dvs.length - j) = ps.length)
    (hb : ∀ (T : Addr) (kV doc pm : Value) (an : Option Addr) (cdv ct : Value) (us its : List Value), us.length = m + 1 → its.length = dvs.length →
      ∃ k, bindArgs (PySem.W.fnOf "__init__" qual params body scope (.ref T) kV doc pm an cdv ct) ⟨us, []⟩ = seqItems? (.ref T) >>= k ∧ k (some its.toArray) = pure (ps.zip (us ++ its.drop j)))
    (h : ∀ (d : Nat) (a : Addr) (cdv : Value) (A : Around) (outer : List Env) (s : Shared) (H : Hp) (E : XK), Room k (A.deeper (envOfC qual scope s.heap.objs.size fI cdv)) → DB (cl.pinned (some (d, a))) (XOf P w K mg base N qual scope fI cdv A outer s H E) d (WOf E) body (sT d)) :
    IokD cl P w K mg base x c (k + 1) n m dts fT := by
  obtain ⟨ds, v, b⟩ := F.binds1 (ps := ps) (m + 1) j hd hj hb
  exact ⟨fI, fd, ps, _, ds, M, init_okD F S hn hle p0 hf h, b, v, hr, hnm, hm⟩
end
theorem IokD.pin {cl : Cl} {x : Option (Nat × Addr)} {P : Program} {w : World} {K : PySem.W.Frag} {mg : Str → Option Value} {base : Heap} {y : Str} {c k n m : Nat} {dts : List T} {f : Nat → List T → Res Fld} (D : IokD cl P w K mg base y c k n m dts f) : IokD (cl.pinned x) P w K mg base y c k n m dts f := by
  obtain ⟨fa, fd, ps, dvs, ds, h1, h2, h3, h4, h5, h6, h7⟩ := D
  exact ⟨fa, fd, ps, dvs, ds, h1, by rw [spI_pin]; exact h2, h3, h4, fun A F => (h5 A F).toPin, h6, h7⟩
theorem DokD.pin {cl : Cl} {x : Option (Nat × Addr)} {P : Program} {w : World} {K : PySem.W.Frag} {mg : Str → Option Value} {base : Heap} {y : Str} {k n m : Nat} {dts : List T} {f : Nat → List T → Res T} (D : DokD cl P w K mg base y k n m dts f) : DokD (cl.pinned x) P w K mg base y k n m dts f := by
  obtain ⟨fa, fd, ps, dvs, ds, h1, h2, h3, h4, h5, h6⟩ := D
  exact ⟨fa, fd, ps, dvs, ds, by rw [spT_pin]; exact h1, h2, h3, fun A F => (h4 A F).toPin, h5, h6⟩
end Py

set_option Elab.async false
set_option linter.all false
set_option maxRecDepth 100000
set_option maxHeartbeats 4000000
namespace Py
open PySem L2 PySem.Spec PyProof.Rows Evl He
/-! ### the greatest of a list -/
def lmaxI : List Int → Option Int
  | [] => none
  | x :: xs => match lmaxI xs with
    | some m => some (max x m)
    | none => some x
theorem lmaxI_none : ∀ {l : List Int}, lmaxI l = none → l = []
  | [], _ => rfl
  | x :: xs, h => by
    have h' : (match lmaxI xs with | some m => some (max x m) | none => some x) = none := h
    cases z : lmaxI xs <;> rw [z] at h' <;> cases h'
theorem lmaxI_of : ∀ {l : List Int} {m : Int}, lmaxI l = some m → 0 < l.length ∧ m ∈ l ∧ ∀ y ∈ l, y ≤ m
  | [], m, h => by cases h
  | x :: xs, m, h => by
    have h' : (match lmaxI xs with | some m => some (max x m) | none => some x) = some m := h
    refine ⟨Nat.succ_pos _, ?_⟩
    cases z : lmaxI xs with
    | some k =>
      rw [z] at h'
      cases h'
      obtain ⟨_, h1, h2⟩ := lmaxI_of z
      refine ⟨?_, fun y hy => ?_⟩
      · rcases Int.le_total x k with c | c
        · rw [Int.max_eq_right c]; exact List.mem_cons_of_mem _ h1
        · rw [Int.max_eq_left c]; exact List.mem_cons_self
      · rcases List.mem_cons.mp hy with e | e
        · rw [e]; exact Int.le_max_left _ _
        · exact Int.le_trans (h2 y e) (Int.le_max_right _ _)
    | none =>
      rw [z] at h'
      cases h'
      rw [lmaxI_none z]
      exact ⟨List.mem_cons_self, fun y hy => by rw [List.mem_singleton.mp hy]; exact Int.le_refl _⟩
def B.maxL : List T → Option T
  | [.lst _ ts] => match B.nums ts with
    | some l => (lmaxI l).map .int
    | none => none
  | _ => none
section
variable {cl : Cl} {X : Cx}
theorem crd_maxL (hc : X.calm = true) : CRd cl X (.builtin "max") B.maxL := ⟨_, cr_max hc, fun A F H Q E ts vs ok e r o => by
  unfold B.maxL at o
  split at o
  · rename_i g us
    obtain ⟨v, rfl, a, ws, rfl, h1, h2, h3⟩ := reps1 r
    cases z : B.nums us with
    | none => simp only [z] at o; exact o.elim
    | some l =>
      simp only [z] at o
      have ew := ints_of z h3
      subst ew
      cases k : lmaxI l with
      | none => rw [k] at o; exact o.elim
      | some m =>
        rw [k] at o
        obtain ⟨a1, a2, a3⟩ := lmaxI_of k
        refine ⟨a, l, rfl, SqL.of (e _ _ h1), a1, fun m' b1 b2 => ?_⟩
        have em : m' = m := Int.le_antisymm (a3 m' b1) (b2 m a2)
        rw [em]
        exact Out.here (t := .int m) o e rfl
  · exact o.elim⟩
end
/-! ### new lists out of slices -/
def T.cutN (t : T) (lo hi : Option Int) : Option (List T) := match t with
  | .lst _ ts => some ((ts.drop (HT.sIx ts.length 0 lo)).take (HT.sIx ts.length ts.length hi - HT.sIx ts.length 0 lo))
  | .ro ts => some ((ts.drop (HT.sIx ts.length 0 lo)).take (HT.sIx ts.length ts.length hi - HT.sIx ts.length 0 lo))
  | _ => none
def P.cutN (p : P.Ex1) (lo hi : Option P.Ex1) : Fv → Res (List T) := fun env => (p env).bind fun t => (P.opart lo env).bind fun l => (P.opart hi env).bind fun u => .of (t.cutN l u)
section
variable {cl : Cl} {X : Cx} {d : Nat} {W : WX} {e : Expr} {p : P.Ex1} {pos p2 : Pos} {lo hi : Option Expr} {pl ph : Option P.Ex1}
theorem dn_cut (h : DE cl X d W e p) (hl : DO cl X d W lo pl) (hh : DO cl X d W hi ph) : DN cl X d W (.Subscript e (.Slice lo hi none p2) pos) (P.cutN p pl ph) := by
  obtain ⟨t, a1, a2⟩ := h
  obtain ⟨t1, b1, b2⟩ := hl
  obtain ⟨t2, c1, c2⟩ := hh
  refine ⟨_, pe_slice sl_list a1 b1 c1, fun A env σ F H Q R e o => ?_⟩
  have o0 : Outg ⟨X.K, cl⟩ A F H (SnR ⟨X.K, cl⟩ A) (SnQ H Q) (WE W σ) ((p env).bind fun t => (P.opart pl env).bind fun l => (P.opart ph env).bind fun u => .of (t.cutN l u)) := o
  refine a2 A env σ F H _ R e (Outg.bind o0 fun x v F1 H1 g1 rx o1 =>
    b2 A env σ F1 H1 _ (R.mono g1.ex) g1.sub (Outg.bind o1 fun l l' F2 H2 g2 el o2 => ?_))
  subst el
  refine c2 A env σ F2 H2 _ ((R.mono g1.ex).mono g2.ex) g2.sub (Outg.bind o2 fun u u' F3 H3 g3 eu o3 => ?_)
  subst eu
  have R3 := ((R.mono g1.ex).mono g2.ex).mono g3.ex
  have rx3 := (rx.mono g2.ex).mono g3.ex
  have fin : ∀ (us : List T) (ws : List V), T.cutN x l' u' = some us → reps ⟨X.K, cl⟩ A F3 us ws → ∀ pa, H3 pa = none → Q (.ref pa) (upd H3 pa (.lst ws)) := fun us ws hz hr pa hp => by
    rw [hz] at o3
    exact o3 (pa, ws) F3 (upd H3 pa (.lst ws)) (Grow.junk g3.sub hp) ⟨hr, none_of_ex g3.sub hp⟩ (none_of_ex ((g1.keep.trans g2.keep).trans g3.keep) hp) upd_same
  cases x <;> (try exact o3.elim)
  · obtain ⟨aa, vs, rfl, h1, h2, h3⟩ := rx3
    refine ⟨aa, vs, rfl, SqL.of (g3.sub _ _ h1), fun pa hp => fin _ _ rfl ?_ pa hp⟩
    unfold cutV
    rw [h3.length]
    exact (h3.drop _).take _
  · obtain ⟨aa, vs, rfl, h1, h3⟩ := rx3
    refine ⟨aa, vs, rfl, ex_l g3.sub h1, fun pa hp => fin _ _ rfl ?_ pa hp⟩
    unfold cutV
    rw [h3.length]
    exact (h3.drop _).take _
end
/-! ### sorted(set(t)), t a tuple of whole numbers -/
def onceI : List Int → List Int
  | [] => []
  | a :: l => if a ∈ l then onceI l else a :: onceI l
theorem onceI_mem {a : Int} : ∀ {l : List Int}, a ∈ onceI l ↔ a ∈ l
  | [] => Iff.rfl
  | b :: l => by
    unfold onceI
    split
    · rename_i h
      rw [onceI_mem, List.mem_cons]
      exact ⟨.inr, fun z => z.elim (fun e => e ▸ h) id⟩
    · rw [List.mem_cons, List.mem_cons, onceI_mem]
theorem onceI_nodup : ∀ l : List Int, (onceI l).Nodup
  | [] => List.nodup_nil
  | b :: l => by
    unfold onceI
    split
    · exact onceI_nodup l
    · rename_i h
      exact List.nodup_cons.mpr ⟨fun z => h (onceI_mem.mp z), onceI_nodup l⟩
theorem onceI_self : ∀ {l : List Int}, l.Nodup → onceI l = l
  | [], _ => rfl
  | b :: l, h => by
    obtain ⟨h1, h2⟩ := List.nodup_cons.mp h
    unfold onceI
    rw [if_neg h1, onceI_self h2]
def sset (l : List Int) : List Int := (onceI l).mergeSort fun a b => decide (a ≤ b)
theorem sset_len {l : List Int} (h : l.Nodup) : (sset l).length = l.length := by
  unfold sset
  rw [List.length_mergeSort, onceI_self h]
theorem sset_mem {l : List Int} {a : Int} : a ∈ sset l ↔ a ∈ l := by
  unfold sset
  rw [(List.mergeSort_perm _ _).mem_iff, onceI_mem]
theorem sset_pw (l : List Int) : (sset l).Pairwise (· < ·) := by
  have h1 := List.pairwise_mergeSort (le := fun a b : Int => decide (a ≤ b)) (fun a b c h1 h2 => by simp at *; omega) (fun a b => by simp; omega) (onceI l)
  have h2 : (sset l).Nodup := (List.mergeSort_perm _ _).nodup_iff.mpr (onceI_nodup l)
  exact (h1.and h2).imp fun ⟨a, b⟩ => by
    have := of_decide_eq_true a
    omega
theorem sset_uniq {l m : List Int} (h : m.Pairwise (· < ·)) (hm : ∀ k, k ∈ m ↔ k ∈ l) : m = sset l := by
  have h2 := sset_pw l
  have n1 : m.Nodup := h.imp fun h => by omega
  have n2 : (sset l).Nodup := h2.imp fun h => by omega
  exact List.Perm.eq_of_pairwise (fun a b _ _ h1 h2 => by omega) h h2 ((List.perm_ext_iff_of_nodup n1 n2).mpr fun k => (hm k).trans sset_mem.symm)
def T.srtSet : T → Option T
  | .tup ts => match B.nums ts with
    | some l => if l.length < 60 then some (.lst none ((sset l).map .int)) else none
    | none => none
  | _ => none
section
variable {X : Cx}
def rSetT (K : PySem.W.Frag) (w : World) : List V → Hp → VK → Prop := fun xs H Q => ∃ (l : Addr) (ns : List Int), xs = [.ref l] ∧ SqT K H l (ns.map V.int) ∧ ns.length < 60 ∧ ∀ p c, H p = none → c ≤ ns.length → Q (.ref p) (upd H p (SetO w p (fun j => decide (j ∈ ns)) c))
theorem cr_setT (hc : X.calm = true) : CallR X (.type "set") (rSetT X.K X.w) := by
  intro pins s σ H vs us Q I r h
  obtain ⟨l, ns, rfl, hq, hl, q⟩ := h
  obtain ⟨its, rv, pt, hz⟩ := I.tuple hq
  have hi : IntsAre its.toArray.toList ns := by simpa using rv.ints
  rw [Vals.ref1 r]
  refine call_set_tupI ns (I.ok.hd hc) (show s.heap.IsTuple l its.toArray from pt) hi (by unfold scanBound; omega) fun h' tk c R1 hcn k => ?_
  exact ⟨.ref _, _, I.laid (t' := tk) k (Nat.le_refl _) (setO_new R1), rfl, q _ c (I.hok.fresh (Nat.le_refl _)) hcn⟩
variable {cl : Cl} {d : Nat} {W : WX} {e : Expr} {p : P.Ex1} {p1 p3 q1 pos : Pos}
theorem nums_reps {G : Ge} {A : Al} {F : Hp} : ∀ l : List Int, reps G A F (l.map .int) (l.map V.int)
  | [] => rfl
  | i :: l => ⟨_, _, rfl, rfl, nums_reps l⟩
theorem de_srtSet (hc : X.calm = true) (hm : X.mg "sorted" = none) (hm2 : X.mg "set" = none) (h : DE cl X d W e p) (hg : Gl X "sorted" := by rfl) (hg2 : Gl X "set" := by rfl)
    (he : starEach [e] X.env = (false, eval e X.env) :: starEach [] X.env := by rfl) (hpl : (backTo q1 (starEach [] X.env)).any (·.1) = false := by rfl)
    (he2 : starEach [Expr.Call (.Name "set" p3) [e] [] q1] X.env = (false, eval (Expr.Call (.Name "set" p3) [e] [] q1) X.env) :: starEach [] X.env := by rfl) (hpl2 : (backTo pos (starEach [] X.env)).any (·.1) = false := by rfl) :
    DE cl X d W (.Call (.Name "sorted" p1) [.Call (.Name "set" p3) [e] [] q1] [] pos) (P.un T.srtSet p) := by
  obtain ⟨t, a1, a2⟩ := h
  refine ⟨_, pe_callB (cr_sortedSet hc) hg hm (by decide +kernel) (pa_cons (pe_callTy (cr_setT hc) hg2 hm2 (by decide +kernel) (pa_cons a1 pa_nil he) (by decide) (by decide) he hpl) pa_nil he2) (by decide) (by decide) he2 hpl2, fun A env σ F H Q R ex o => ?_⟩
  refine a2 A env σ F H _ R ex (Outg.bind o fun x v F1 H1 g1 rx o1 => ?_)
  unfold T.srtSet at o1
  cases x with
  | tup ts =>
    simp only at o1
    cases z : B.nums ts with
    | none => rw [z] at o1; exact o1.elim
    | some l =>
      rw [z] at o1
      simp only at o1
      by_cases c : l.length < 60
      · rw [if_pos c] at o1
        obtain ⟨a, vs, rfl, k1, k2⟩ := rx
        have ev := ints_of z k2
        subst ev
        refine ⟨a, l, rfl, ex_s g1.sub k1, c, fun pa n hp hn => ?_⟩
        refine ⟨pa, _, n, rfl, upd_same, by omega, fun ns pb s1 s2 s3 hpb => ?_⟩
        have e1 : ns = sset l := sset_uniq s1 fun k => (s2 k).trans decide_eq_true_iff
        subst e1
        have gj : Grow F1 H1 F1 (upd H1 pa (SetO X.w pa (fun j => decide (j ∈ l)) n)) := Grow.junk g1.sub hp
        exact Out.lst (Outg.step gj o1) ((R.mono g1.ex).ok) gj.sub (nums_reps _) pb hpb
      · rw [if_neg c] at o1
        exact o1.elim
  | _ => exact o1.elim
end
/-! ### y = [..], own lists read meanwhile -/
section
variable {cl : Cl} {X : Cx} {d : Nat} {W : WX} {elt iter tg : Expr} {ifs : List Expr} {p : P.Ex1} {b : P.Bx} {own : List (Str × Nat)} {tgT : T → Fv → Option Fv} {pi : Fv → Res (List T)} {pos spos py : Pos} {scope : Scope}
theorem ds_asgLcY {i : Nat} {y : Str} (hN : X.N.Nodup) (hi : DI cl X d W tg iter pi) (ok : BlkOk X.N X.env.scope scope own)
    (hg : ∀ (s : Shared) (H : Hp) (C : Addr) (c : List (Str × Addr)) (fp : List Addr), DC cl (XBlk X scope s H C c fp) d (own.map (·.2)) tg tgT) (ht : ∀ (s : Shared) (H : Hp) (C : Addr) (c : List (Str × Addr)) (fp : List Addr), DTs cl (XBlk X scope s H C c fp) d W0 ifs b)
    (he : ∀ (s : Shared) (H : Hp) (C : Addr) (c : List (Str × Addr)) (fp : List Addr), DE cl (XBlk X scope s H C c fp) d W0 elt p) (hsw : swapsWith (.ListComp elt [⟨tg, iter, ifs, 0⟩] scope pos) (some (.Name y py)) spos.line X.env = pure true) (hy : X.N[i]? = some y := by rfl) (hyl : X.env.scope.names.lookup y = some .local := by rfl) (hc : X.calm = true := by rfl) (hs : ∀ x, foldedSetIterable iter X.env x = pure x := by intro _; rfl) (hp : i = 0 → cl.pin = none := by first | (intro _; assumption) | (intro h; cases h)) :
    DS cl X d W (.Assign [.Name y py] (.ListComp elt [⟨tg, iter, ifs, 0⟩] scope pos) spos) (S.asgY i (P.lc (own.map (·.2)) tgT pi b p)) :=
  ⟨_, ps_setLc hc hN hy hyl hsw hi.pI ok (fun s H C c fp => (hg s H C c fp).pg) (fun s H C c fp => (ht s H C c fp).pt) (fun s H C c fp => (he s H C c fp).pe) hs, ss_asgY (SN.se (sn_lc si_cI sc_cC st_cT se_cE)) hp⟩
end
end Py

set_option Elab.async false
set_option linter.all false
set_option maxRecDepth 100000
set_option maxHeartbeats 4000000
namespace Py
open PySem L2 PySem.Spec PyProof.Rows Evl He RT
/-! ### tuple(reversed(t)), t a tuple -/
theorem nolen_rt : typeLookup (.type "reversed") "__len__" = pure none := by rw [typeLookup_type, builtinLookup_eq_fast]; kernel_rfl
theorem hint_rt : typeLookup (.type "reversed") "__length_hint__" = pure (some (.builtin "reversed.__length_hint__")) := by rw [typeLookup_type, builtinLookup_eq_fast]; kernel_rfl
theorem slot_rt_hint : Slot "reversed" "__length_hint__" "reversed.__length_hint__" :=
  .of (owner := "reversed") (n := "__length_hint__") (by rw [typeLookup_type, builtinLookup_eq_fast]; kernel_rfl) (by decide +kernel) (by decide +kernel) (by decide +kernel)
    (by first | exact .inl (by decide +kernel) | exact .inr (by decide +kernel)) (by rw [isSubtype_type]; kernel_rfl)
theorem entry_rt_hint : entryFor table "reversed.__length_hint__" = some Builtin.«reversed.__length_hint__» := entryFor_of_tree (by kernel_rfl)
theorem args_rt_hint (a : Value) : argsOk "reversed.__length_hint__" ⟨[a], []⟩ := by
  unfold argsOk; rw [signature?_of (id := "reversed.__length_hint__") (n := ['_', '_', 't', 'n', 'i', 'h', '_', 'h', 't', 'g', 'n', 'e', 'l', '_', '_']) (o := ['d', 'e', 's', 'r', 'e', 'v', 'e', 'r']) (by kernel_rfl) owner_rt]; kernel_rfl
theorem kind_rt_hint : builtinKind "reversed.__length_hint__" = some .method := by decide +kernel
theorem type_rt_hint : builtinType "reversed.__length_hint__" = pure (.type "method_descriptor") := by
  have k2 : withoutEnding? "reversed.__length_hint__" "#data" = none := by decide +kernel
  unfold builtinType
  rw [if_neg (by decide +kernel)]
  simp only [k2, kind_rt_hint]
theorem bind_rt_hint (x : Value) : bindSpecial (.builtin "reversed.__length_hint__") x = pure (.builtin "reversed.__length_hint__", [x]) := by
  simp only [bindSpecial, typeOf, type_rt_hint]; rfl
section
variable {prog : Program} {w : World} {A : Around} {E : Value → Shared → Prop} {s : Shared}
theorem call_hint_rt {it t : Addr} {items : Array Value} {Q : Value → Shared → Prop} (hit : IsRt s.heap it t ((items.size : Int) - 1))
    (hlen : ∀ (A : Around) (E : Value → Shared → Prop) (Q : Value → Shared → Prop), Q (.int items.size (s.toks + 1)) { s with toks := s.toks + 1 + 1 } → wpAny (model prog w) A (call (.builtin "len") [.ref t]) Q E s)
    (h : ∀ a b : Nat, Q (.int items.size a) { s with toks := b }) : wpAny (model prog w) A (call (.builtin "reversed.__length_hint__") [.ref it]) Q E s := by
  obtain ⟨o, ho, hc, hd⟩ := id hit
  refine wpAny_call_entry slot_rt_hint hit.typeIs entry_rt_hint ?_ (args_rt_hint _)
  unfold Builtin.«reversed.__length_hint__»
  refine wpAny_bind (wpAny_of_eq (a := Value.ref it) rfl ?_)
  try dsimp only
  refine wpAny_bind (wpAny_field ho hd (x := .ref t) rfl ?_)
  try dsimp only
  try rw [if_neg (by decide)]
  try dsimp only
  refine wpAny_bind (hlen _ _ _ ?_)
  refine wpAny_bind (wpAny_of_eq (a := some ((items.size : Nat) : Int)) rfl ?_)
  try dsimp only
  refine wpAny_bind (wpAny_field (s := { s with toks := s.toks + 1 + 1 }) ho hd (x := rawInt ((items.size : Int) - 1)) rfl ?_)
  show wpAny _ _ (if ((items.size : Nat) : Int) < ((items.size : Int) - 1) + 1 then _ else _) _ _ _
  rw [if_neg (by omega)]
  refine wpAny_bind (wpAny_mkInt ?_)
  refine wpAny_pure ⟨_, rfl, ?_⟩
  have e : ((items.size : Int) - 1) + 1 = (items.size : Int) := by omega
  rw [e]
  exact h _ _
end
section
variable {prog : Program} {w : World} {A : Around} {E : Value → Shared → Prop} {s : Shared}
theorem walks_rt (hh : A.handled = none) (I l : Addr) (hne : l ≠ I) (items : Array Value) (hz : items.size ≤ sizeLine) :
    Walks prog w A I [I, l] [I] items.size (fun i v => items[items.size - 1 - i]? = some v) (fun i h => i ≤ items.size ∧ IsRt h I l ((items.size : Int) - 1 - (i : Int)) ∧ IsTup h l items) where
  sub := fun b m => by simp at m; simp [m]
  frame := fun _ _ _ st k => ⟨st.1, st.2.1.at fun o e => k I (by simp) o e, let ⟨o, ho, r⟩ := st.2.2; ⟨o, k l (by simp) o ho, r⟩⟩
  item := fun i s Q E lt st hQ => by
    obtain ⟨_, hit, ht⟩ := st
    rw [show (items.size : Int) - 1 - (i : Int) = ((items.size - 1 - i : Nat) : Int) by omega] at hit
    have hx : items[items.size - 1 - i]? = some (items[items.size - 1 - i]'(by omega)) := Array.getElem?_eq_getElem (by omega)
    refine next_rt_item hit ht hx hz fun h' k1 k2 => ?_
    rw [show ((items.size - 1 - i : Nat) : Int) - 1 = (items.size : Int) - 1 - ((i + 1 : Nat) : Int) by omega] at k1
    obtain ⟨o, ho, r⟩ := ht
    exact hQ _ h' _ hx ⟨lt, k1, o, (k2.2 l hne).trans ho, r⟩ fun b u hb eo => k2.extBut b u (fun z => hb (by simp [z])) eo
  done := fun s Q E st hQ => by
    obtain ⟨_, hit, _⟩ := st
    rw [show (items.size : Int) - 1 - (items.size : Int) = -1 by omega] at hit
    exact next_rt_end hh hit fun h' k => hQ h' s.toks fun b u hb eo => k b u (fun z => hb (by simp [z])) eo
  self := fun _ _ _ _ st hQ => iter_rt st.2.1 hQ
theorem gather_rt {it l : Addr} {items : Array Value} {Q : List Value → Shared → Prop} (hh : A.handled = none) (hit : IsRt s.heap it l ((items.size : Int) - 1)) (hl : IsTup s.heap l items) (hne : l ≠ it) (hn : items.size ≤ sizeLine) (h0 : 0 < items.size)
    (hlen : ∀ (h1 : Heap), IsTup h1 l items → ∀ (A : Around) (E : Value → Shared → Prop) (Q : Value → Shared → Prop), Q (.int items.size (s.toks + 1)) { s with heap := h1, toks := s.toks + 1 + 1 } → wpAny (model prog w) A (call (.builtin "len") [.ref l]) Q E { s with heap := h1 })
    (hQ : ∀ (h' : Heap) (tk : Nat) (acc : Array Value), (∀ b o, b ≠ it → s.heap.get? b = some o → h'.get? b = some o) → ItemsOf (fun i v => items[items.size - 1 - i]? = some v) acc items.size → Q acc.toList { s with heap := h', toks := tk }) :
    wpAny (model prog w) A (collect (.ref it)) Q E s := by
  have W := (walks_rt (prog := prog) (w := w) (A := A.in1) hh it l hne items hn).toS
  obtain ⟨oi, hoi, _⟩ := id hit
  obtain ⟨ol, hol, _⟩ := id hl
  have n1 : s.heap.objs.size ≠ it := Nat.ne_of_gt (Heap.lt_size hoi)
  have n2 : s.heap.objs.size ≠ l := Nat.ne_of_gt (Heap.lt_size hol)
  have n3 : s.heap.objs.size ∉ [it, l] := by simp only [List.mem_cons, List.not_mem_nil, or_false, not_or]; exact ⟨n1, n2⟩
  unfold collect
  refine wpAny_bind (wpAny_runValue (codeAny_builtin PySem.F.entry_proto_collect ?_))
  rw [Around.under_plainId PySem.F.plain_proto_collect _]
  show wpAny _ A.in1 (newList [] >>= fun l' => again (.builtin "list.__iadd__" ⟨[l', .ref it], []⟩)) _ _ s
  refine wpAny_bind (wpAny_newObj_type ?_)
  refine wpAny_pure ⟨plainId_quiet PySem.F.plain_list_iadd _, codeAny_builtin PySem.F.entry_list_iadd ?_⟩
  rw [Around.under_plainId PySem.F.plain_list_iadd _]
  generalize hpp : s.heap.push { cls := .type "list", data := .seq ([] : List Value).toArray } = h1
  have at1 : h1.get? s.heap.objs.size = some { cls := .type "list", data := .seq ([] : List Value).toArray } := by rw [← hpp]; exact Heap.get?_push_size _ rfl
  have up : ∀ b o, s.heap.get? b = some o → h1.get? b = some o := fun b o e => by rw [← hpp]; exact Heap.get?_push_of_some _ e
  have it1 : IsRt h1 it l ((items.size : Int) - 1) := hit.at fun o e => up _ _ e
  have tp1 : IsTup h1 l items := let ⟨o, ho, r⟩ := hl; ⟨o, up _ _ ho, r⟩
  have hT : ({ s with heap := h1 } : Shared).TypeIs (.ref it) "reversed" := IsRt.typeIs (s := { s with heap := h1 }) it1
  have hs1 : Builtin.List.listSameRef (.ref s.heap.objs.size) (.ref it) = false := by simp [Builtin.List.listSameRef, n1]
  show wpAny _ A.in1 (Builtin.List.listExtendWith (.ref s.heap.objs.size) (.ref it) (.ref s.heap.objs.size)) _ _ _
  unfold Builtin.List.listExtendWith
  refine wpAny_bind (wpAny_typeOf hT ?_)
  rw [if_neg (by rw [hs1]; decide)]
  refine wpAny_bind (iter_rt (s := { s with heap := h1 }) it1 ?_)
  refine wpAny_bind (wpAny_holding ?_)
  unfold Builtin.List.listLengthHint
  refine wpAny_bind (wpAny_specialOf hT nolen_rt ?_)
  show wpAny _ A.in1 (specialOf (Value.ref it) (Str.ofString "__length_hint__") >>= _) _ _ _
  refine wpAny_bind (wpAny_specialOf hT hint_rt ?_)
  generalize hid : ("reversed.__length_hint__" : String) = id0
  wp_delta
  rw [show splitId id0 = some ("reversed", "__length_hint__") from by subst hid; decide +kernel]
  subst hid
  refine wpAny_bind (wpAny_isInstance (b := true) hT (by rw [isSubtype_type]; kernel_rfl) ?_)
  try dsimp only
  try rw [if_neg (by decide)]
  try dsimp only
  rw [if_neg (by decide +kernel)]
  refine wpAny_bind (wpAny_rule ?_)
  refine wpAny_bind (wpAny_of_eq (bind_rt_hint _) ?_)
  try dsimp only
  refine wpAny_bind (wpAny_attempt (call_hint_rt (s := { s with heap := h1 }) it1 (hlen h1 tp1) fun t1 t2 => ?_))
  try dsimp only
  have ai : ∀ (n : Int) (t : Nat), asInt? (.int n t) = pure (some n) := fun _ _ => rfl
  rw [ai]
  simp only [pure_bind]
  rw [sizeLine_eq] at hn
  have z1 : Builtin.List.listFitsIndex ((items.size : Nat) : Int) = true := by
    unfold Builtin.List.listFitsIndex
    have q1 : (-(2 ^ 63) : Int) ≤ ((items.size : Nat) : Int) := by omega
    have q2 : ((items.size : Nat) : Int) < 2 ^ 63 := by omega
    exact Bool.and_eq_true_iff.mpr ⟨decide_eq_true q1, decide_eq_true q2⟩
  have z2 : Builtin.List.listTooLong ((items.size : Nat) : Int).toNat = false := by
    unfold Builtin.List.listTooLong
    rw [sizeLine_eq]
    exact decide_eq_false (by omega)
  rw [← sizeLine_eq] at hn
  rw [z1, if_neg (by decide)]
  rw [if_neg (by omega), z2, if_neg (by decide)]
  refine wpAny_pure ?_
  have z3 : (((items.size : Nat) : Int) != 0) = true := by
    rw [bne_iff_ne]
    omega
  rw [z3]
  rw [Bool.true_or, if_pos rfl]
  refine wpAny_bind (wpAny_rule ?_)
  refine wpAny_bind ?_
  unfold Builtin.List.listTouch
  show wpAny _ A.in1 (updateSeq s.heap.objs.size (fun xs => xs.push .none) >>= fun _ => updateSeq s.heap.objs.size (fun xs => xs.pop)) _ _ _
  refine wpAny_bind (wpAny_updateSeq (s := { s with heap := h1, toks := t2 }) at1 rfl ?_ (Nat.zero_le _) (Nat.succ_le_succ (Nat.zero_le _)))
  have at2 := Heap.get?_update_self (Obj.mapSeq (fun xs : Array Value => xs.push .none)) at1 rfl
  refine wpAny_updateSeq (s := { s with heap := h1.update s.heap.objs.size (Obj.mapSeq (fun xs : Array Value => xs.push .none)), toks := t2 }) at2 rfl ?_ (by show 1 ≤ sizeLine; rw [sizeLine_eq]; omega) (Nat.zero_le _)
  have at3 := Heap.get?_update_self (Obj.mapSeq (fun xs : Array Value => xs.pop)) at2 rfl
  have up3 : ∀ b o, s.heap.get? b = some o → ((h1.update s.heap.objs.size (Obj.mapSeq (fun xs : Array Value => xs.push .none))).update s.heap.objs.size (Obj.mapSeq (fun xs : Array Value => xs.pop))).get? b = some o := fun b o e =>
    (Heap.get?_update_other _ _ (Ne.symm (Nat.ne_of_lt (Heap.lt_size e)))).trans ((Heap.get?_update_other _ _ (Ne.symm (Nat.ne_of_lt (Heap.lt_size e)))).trans (up b o e))
  generalize hh3 : (h1.update s.heap.objs.size (Obj.mapSeq (fun xs : Array Value => xs.push .none))).update s.heap.objs.size (Obj.mapSeq (fun xs : Array Value => xs.pop)) = h3 at *
  have it3 : IsRt h3 it l ((items.size : Int) - 1) := hit.at fun o e => up3 _ _ e
  have tp3 : IsTup h3 l items := let ⟨o, ho, r⟩ := hl; ⟨o, up3 _ _ ho, r⟩
  have e0 : ((items.size : Nat) : Int) - 1 - ((0 : Nat) : Int) = (items.size : Int) - 1 := by omega
  refine wpAny_pure ⟨plainId_quiet PySem.F.plain_extend_loop _, codeAny_extend_loopS W hn _ n3 _ items.size 0 _ _ _ rfl (Nat.zero_le _) ⟨Nat.zero_le _, by rw [e0]; exact it3, tp3⟩ at3 (ItemsOf.nil _) fun s' acc' c' hm hS' hacc => ?_⟩
  show wpAny _ _ (load s.heap.objs.size >>= _) _ _ s'
  refine wpAny_bind (wpAny_load hS' ?_)
  refine wpAny_pure ?_
  rw [Moved.eq_with hm]
  refine hQ s'.heap s'.toks acc' (fun b o hb e => hm.heap b o (fun mem => ?_) (up3 b o e)) hacc
  rcases List.mem_cons.mp mem with z | z
  · exact absurd (Heap.lt_size e) (by rw [z]; exact Nat.lt_irrefl _)
  · exact hb (List.mem_singleton.mp z)
theorem newtup_rt {it l : Addr} {items : Array Value} {Q₁ : Value → Shared → Prop} (hh : A.handled = none) (hit : IsRt s.heap it l ((items.size : Int) - 1)) (hl : IsTup s.heap l items) (hne : l ≠ it) (hn : items.size ≤ sizeLine) (h0 : 0 < items.size)
    (hlen : ∀ (h1 : Heap), IsTup h1 l items → ∀ (A : Around) (E : Value → Shared → Prop) (Q : Value → Shared → Prop), Q (.int items.size (s.toks + 1)) { s with heap := h1, toks := s.toks + 1 + 1 } → wpAny (model prog w) A (call (.builtin "len") [.ref l]) Q E { s with heap := h1 })
    (h : ∀ (h' : Heap) (tk : Nat) (acc : Array Value), (∀ b o, b ≠ it → s.heap.get? b = some o → h'.get? b = some o) → ItemsOf (fun i v => items[items.size - 1 - i]? = some v) acc items.size →
      Q₁ (.ref h'.objs.size) { s with heap := h'.push { cls := .type "tuple", data := .seq acc }, toks := tk }) :
    codeAny (model prog w) A (.call (.builtin "tuple.__new__") ⟨[.type "tuple", .ref it], []⟩) (wants Q₁ E) s := by
  refine codeAny_of_tree ?_
  show wpAny _ A.in1 (do checkBuiltinCall "tuple.__new__" ⟨[.type "tuple", .ref it], []⟩; again (.builtin "tuple.__new__" ⟨[.type "tuple", .ref it], []⟩)) _ _ s
  refine wpAny_bind (wpAny_of_eq (PySem.F.newCall_tuple_1 _) (wpAny_pure ⟨plainId_quiet PySem.F.plain_tuple_new _, codeAny_builtin PySem.F.entry_tuple_new ?_⟩))
  rw [Around.under_plainId PySem.F.plain_tuple_new _]
  have hsub := sub_tuple_self
  have hinit := init_tuple_lookup
  have hmh := madeHere_tuple
  have hTI : s.TypeIs (.ref it) "reversed" := hit.typeIs
  have hh1 : A.in1.handled = none := hh
  wp_walk using wpAny_typeOf hTI, gather_rt (A := A.in1) hh1 hit hl hne hn h0 hlen
  intro h' tk acc hk hacc
  show wpAny _ _ (Builtin.Tuple.tupleExact acc.toList.toArray >>= fun v => ret v) _ _ _
  unfold Builtin.Tuple.tupleExact
  refine wpAny_bind (wpAny_newObj_type ?_ (by show acc.toList.toArray.size ≤ sizeLine; simp only [Array.toArray_toList]; rw [hacc.1]; exact hn))
  refine wpAny_pure ?_
  have e : acc.toList.toArray = acc := by simp
  rw [e]
  exact h h' tk acc hk hacc
theorem tup_rt {it l : Addr} {items : Array Value} {Q : Value → Shared → Prop} (hh : A.handled = none) (hit : IsRt s.heap it l ((items.size : Int) - 1)) (hl : IsTup s.heap l items) (hne : l ≠ it) (hn : items.size ≤ sizeLine) (h0 : 0 < items.size)
    (hlen : ∀ (h1 : Heap), IsTup h1 l items → ∀ (A : Around) (E : Value → Shared → Prop) (Q : Value → Shared → Prop), Q (.int items.size (s.toks + 1)) { s with heap := h1, toks := s.toks + 1 + 1 } → wpAny (model prog w) A (call (.builtin "len") [.ref l]) Q E { s with heap := h1 })
    (hQ : ∀ (h' : Heap) (tk : Nat) (acc : Array Value), (∀ b o, b ≠ it → s.heap.get? b = some o → h'.get? b = some o) → ItemsOf (fun i v => items[items.size - 1 - i]? = some v) acc items.size →
      Q (.ref h'.objs.size) { s with heap := h'.push { cls := .type "tuple", data := .seq acc }, toks := tk }) :
    wpAny (model prog w) A (call (.type "tuple") [.ref it]) Q E s := by
  refine callType_codes (Q₁ := fun obj s₁ => s₁.TypeIs obj "tuple" ∧ Q obj s₁) PySem.F.called_tuple (PySem.F.typeCall_tuple_1 _) PySem.F.entry_object_init
    (newtup_rt (A := A.in1) hh hit hl hne hn h0 hlen fun h' tk acc hk hacc => ⟨⟨_, Heap.get?_push_size _ rfl, rfl⟩, hQ h' tk acc hk hacc⟩) fun obj s₁ h₁ => ?_
  exact ⟨h₁.1, PySem.F.args_object_init_2 obj _, object_init_meets PySem.F.called_tuple.init.lookup PySem.F.called_tuple.made (by decide) prog w A.in1 _ s₁ ⟨h₁.1, rfl, h₁.2⟩⟩
end
def tTupRevT (K : PySem.W.Frag) (te : TE) : TE := fun σ H Q => te σ H fun v H1 => ∃ (a : Addr) (xs : List V), v = .ref a ∧ SqT K H1 a xs ∧ 0 < xs.length ∧ ∀ q, H1 q = none → Q (.ref q) (upd H1 q (.tup xs.reverse))
section
variable {X : Cx}
theorem pe_tupRevT {e : Expr} {te : TE} {p p2 pos pos2 : Pos} (hc : X.calm = true) (hg : Gl X "tuple") (hm : X.mg "tuple" = none) (hg2 : Gl X "reversed") (hm2 : X.mg "reversed" = none) (he : PE X e te)
    (hs : starEach [e] X.env = (false, eval e X.env) :: starEach [] X.env := by rfl)
    (hs2 : starEach [.Call (.Name "reversed" p2) [e] [] pos2] X.env = (false, eval (.Call (.Name "reversed" p2) [e] [] pos2) X.env) :: starEach [] X.env := by rfl) :
    PE X (.Call (.Name "tuple" p) [.Call (.Name "reversed" p2) [e] [] pos2] [] pos) (tTupRevT X.K te) := by
  refine ⟨fun pins s σ H Q I h => ?_⟩
  refine Call_ (ld_blt I hg hm boot_tuple (PyProof.Rows.callWith_type1 (args_cons (Call_ (ld_blt I hg2 hm2 PyProof.Rows.boot_reversed (PyProof.Rows.callWith_type1 (args_cons (thn (he.run pins s σ H _ I h) fun u s1 ⟨v, H1, I1, r1, q1⟩ => args_nil ?_) hs) hs rfl))) hs2) hs2 rfl))
  obtain ⟨a, xs, ev, hq, hpos, q⟩ := q1
  subst ev
  obtain rfl : u = Value.ref a := r1
  obtain ⟨its, rv, p', hz⟩ := I1.tuple hq
  have hn63 := line63
  refine call_reversed_tup p' (fun A E Q k => len_tuple p' (by simp only [List.size_toArray] <;> (have := rv.length; omega)) k) (args_nil ?_)
  obtain ⟨ol, hol, hr⟩ := id p'
  have hne : a ≠ s1.heap.objs.size := Nat.ne_of_lt (Heap.lt_size hol)
  have hn : its.toArray.size ≤ sizeLine := by rw [List.size_toArray, ← rv.length]; exact hz
  have k0 : ∀ b o, s1.heap.get? b = some o → (s1.heap.push (rtObj a ((its.toArray.size : Int) - 1))).get? b = some o := fun b o e => Heap.get?_push_of_some _ e
  have I2 : Inv X pins σ H1 { s1 with heap := s1.heap.push (rtObj a ((its.toArray.size : Int) - 1)), toks := s1.toks + 1 + 1 } := I1.kept (t' := s1.toks + 1 + 1) k0
  obtain ⟨f0, f1, f2, f3, f4, f5⟩ := I1.fpOk (H' := H1) (b := s1.heap.objs.size) (Nat.le_refl _) (I1.hok.fresh (Nat.le_refl _))
  refine tup_rt (s := { s1 with heap := s1.heap.push (rtObj a ((its.toArray.size : Int) - 1)), toks := s1.toks + 1 + 1 }) (I1.ok.hd hc) ⟨_, Heap.get?_push_size _ rfl, rfl, rfl⟩ ⟨ol, k0 _ _ hol, hr⟩ hne hn (by rw [List.size_toArray, ← rv.length]; exact hpos) (fun h1 tp A E Q k => len_tuple (s := { s1 with heap := h1, toks := s1.toks + 1 + 1 }) tp (by simp only [List.size_toArray] <;> (have := rv.length; omega)) k) fun h' tk acc hk hi => ?_
  have I3 : Inv X pins σ H1 { s1 with heap := h', toks := tk } := I2.turned (t' := tk) (fun b o hb e => hk b o hb e) f0 f1 f3 f4 f5
  refine ⟨.ref h'.objs.size, upd H1 h'.objs.size (.tup xs.reverse), I3.laid (t' := tk) (fun c o e => Heap.get?_push_of_some _ e) (Nat.le_refl _) (show ObjOk X.prog X.w _ _ _ (.tup xs.reverse) from ⟨by rw [List.length_reverse]; exact hz, acc.toList, vals_rev rv hi, ?_⟩), rfl, q _ (I3.hok.fresh (Nat.le_refl _))⟩
  rw [Array.toArray_toList]
  exact IsTup.new _ _
end
def T.revT : T → Option T
  | .tup (t :: ts) => some (.tup (t :: ts).reverse)
  | _ => none
section
variable {cl : Cl} {X : Cx} {d : Nat} {W : WX} {e : Expr} {p : P.Ex1} {p1 p2 pos pos2 : Pos}
theorem de_tupRevT (hm : X.mg "tuple" = none) (hm2 : X.mg "reversed" = none) (h : DE cl X d W e p) (hc : X.calm = true := by rfl) (hg : Gl X "tuple" := by rfl) (hg2 : Gl X "reversed" := by rfl) (hs : starEach [e] X.env = (false, eval e X.env) :: starEach [] X.env := by rfl)
    (hs2 : starEach [.Call (.Name "reversed" p2) [e] [] pos2] X.env = (false, eval (.Call (.Name "reversed" p2) [e] [] pos2) X.env) :: starEach [] X.env := by rfl) : DE cl X d W (.Call (.Name "tuple" p1) [.Call (.Name "reversed" p2) [e] [] pos2] [] pos) (P.un T.revT p) := by
  obtain ⟨te, a1, a2⟩ := h
  refine ⟨_, pe_tupRevT hc hg hm hg2 hm2 a1 hs hs2, fun A env σ F H Q R e o => a2 A env σ F H _ R e (Outg.bind o fun y w F1 H1 g1 rx o1 => ?_)⟩
  unfold T.revT at o1
  cases y with
  | tup ts =>
    cases ts with
    | nil => exact o1.elim
    | cons t ts =>
      obtain ⟨a, vs, rfl, h1, h3⟩ := rx
      exact ⟨a, vs, rfl, ex_s g1.sub h1, by rw [h3.length]; exact Nat.succ_pos _, fun q hq => Out.tup o1 g1.sub h3.reverse q hq⟩
  | _ => exact o1.elim
end
end Py

set_option Elab.async false
set_option linter.all false
set_option maxRecDepth 100000
set_option maxHeartbeats 4000000
/-! generators whose consumer changes several objects of its own while they sleep (a comprehension: its list and its names) -/
namespace Gw
open PySem PySem.Spec PyProof.Rows GenW L2
/-- what the consumer may do: Ss, the objects that it changes; Cs, what it knows of them when ys is out -/
structure Con where
  Ss : List Addr
  Cs : List V → Heap → Prop
  same : ∀ ys h h', (∀ b ∈ Ss, h'.get? b = h.get? b) → Cs ys h → Cs ys h'
structure Asleep (C : Con) (s s' : Shared) : Prop where
  os : s'.os = s.os
  bare : AllBare s'.gens
  keep : ∀ b o, b ∉ C.Ss → s.heap.get? b = some o → s'.heap.get? b = some o
  own : ∀ b ∈ C.Ss, ∃ o, s'.heap.get? b = some o ∧ ∀ v, o.data ≠ .cell v
/-- the consumer's objects: younger than the generator's call, none of its frame's -/
def Far (X : Cx) (C : Con) : Prop := ∀ b ∈ C.Ss, X.s_0.heap.objs.size ≤ b ∧ b ≠ X.env.locals ∧ ∀ x c, X.env.cells.lookup x = some c → c ≠ b
/-- running: ys is out -/
def Run (X : Cx) (C : Con) (ip : List (Addr × Obj)) (ys : List V) (σ : L2.St) (H : Hp) (s : Shared) : Prop :=
  ∃ os : List (Addr × Obj), os.map (·.1) = C.Ss ∧ Inv X (os ++ ip) σ H s ∧ C.Cs ys s.heap
variable {X : Cx} {C : Con} {ip : List (Addr × Obj)} {ys : List V} {σ : L2.St} {H : Hp} {s : Shared}
theorem Run.at (h : Run X C ip ys σ H s) : ∀ b ∈ C.Ss, H b = none ∧ b ≠ X.env.locals ∧ b ∉ X.fs := fun b hb => by
  obtain ⟨os, e, I, _⟩ := h
  rw [← e] at hb
  obtain ⟨p, hp, rfl⟩ := List.mem_map.mp hb
  obtain ⟨_, h2, h3, h4, _⟩ := I.pin p (List.mem_append_right _ (List.mem_append_left _ hp))
  exact ⟨h2, h3, h4⟩
/-- what a stretch of the generator's own code leaves -/
theorem Run.after {os : List (Addr × Obj)} {σ' : L2.St} {H' : Hp} {s' : Shared} (e : os.map (·.1) = C.Ss) (I : Inv X (os ++ ip) σ H s) (c : C.Cs ys s.heap) (J : Inv X (os ++ ip) σ' H' s') : Run X C ip ys σ' H' s' :=
  ⟨os, e, J, C.same ys _ _ (fun b hb => by
    rw [← e] at hb
    obtain ⟨p, hp, rfl⟩ := List.mem_map.mp hb
    rw [(I.pin p (List.mem_append_right _ (List.mem_append_left _ hp))).1, (J.pin p (List.mem_append_right _ (List.mem_append_left _ hp))).1]) c⟩
/-- woken again -/
theorem Run.woken {zs : List V} {s' : Shared} (hpn : ∀ p ∈ X.pn, p.1 ∉ C.Ss) (hip : ∀ p ∈ ip, p.1 ∉ C.Ss) (hA : Far X C) (h : Run X C ip ys σ H s) (z : Asleep C s s') (hc : C.Cs zs s'.heap) : Run X C ip zs σ H s' := by
  have hat := h.at
  obtain ⟨os, e, I, _⟩ := h
  have I0 : Inv X ip σ H s := I.pins_of fun p hp => I.pin p (List.mem_append_right _ (List.mem_append_right _ hp))
  have nt : ∀ b u, H b = some u → b ∉ C.Ss := fun b u q hb => by rw [(hat b hb).1] at q; cases q
  have hL : X.env.locals ∉ C.Ss := fun hb => (hat _ hb).2.1 rfl
  obtain ⟨z1, z2, z3, z4⟩ := z
  obtain ⟨hh, g, d, t, o⟩ := s'
  have ho : o = s.os := z1
  subst ho
  have J : Inv X ip σ H { s with heap := hh, gens := g, drawn := d, toks := t } := by
    refine I0.step (g' := g) (t' := t) (d' := d) (ch := C.Ss) (fun b hb => ?_)
      (fun b ob _ _ hn q _ => z3 b ob hn q) (fun b ob _ _ hn q _ => ⟨ob.slots, z3 b ob hn q⟩) (fun _ _ _ _ n => n) (fun b ob hn q => ⟨ob, z3 b ob hn q⟩)
      (fun _ _ q => q) (fun _ _ _ q => q) (fun b ps q => ⟨#[], by rw [q]; simp⟩) (fun m hm => ?_) (fun b u q => ?_) z2
    · obtain ⟨a1, a2, a3⟩ := hA b hb
      refine ⟨.inr a1, a2, a3, fun p hp => ?_⟩
      rcases List.mem_append.mp hp with hp | hp
      · exact fun y => hpn p hp (y ▸ hb)
      · exact fun y => hip p hp (y ▸ hb)
    · obtain ⟨ob, es, ep, hob, r⟩ := hm
      exact ⟨ob, es, ep, z3 _ ob hL hob, r⟩
    · refine (I0.hok b u q).stay (fun c v hcc y => z3 c v ?_ y) (fun _ y => y) fun _ _ y => y
      rcases hcc with y | y
      · rw [y]; exact nt b u q
      · exact nt c _ y
  have pinned : ∀ l : List Addr, (∀ b ∈ l, b ∈ C.Ss) → ∃ os' : List (Addr × Obj), os'.map (·.1) = l ∧ ∀ p ∈ os', hh.get? p.1 = some p.2 ∧ p.1 ∈ C.Ss ∧ ∀ v, p.2.data ≠ .cell v := fun l => by
    induction l with
    | nil => intro _; exact ⟨[], rfl, fun p hp => by cases hp⟩
    | cons b l ih =>
      intro hl
      obtain ⟨o', q1, q2⟩ := z4 b (hl b List.mem_cons_self)
      obtain ⟨os', w1, w2⟩ := ih fun c hcc => hl c (List.mem_cons_of_mem _ hcc)
      refine ⟨(b, o') :: os', by rw [List.map_cons, w1], fun p hp => ?_⟩
      rcases List.mem_cons.mp hp with y | y
      · rw [y]; exact ⟨q1, hl b List.mem_cons_self, q2⟩
      · exact w2 p y
  obtain ⟨os', w1, w2⟩ := pinned C.Ss fun _ y => y
  refine ⟨os', w1, J.pins_of fun p hp => ?_, hc⟩
  rcases List.mem_append.mp hp with hp | hp
  · obtain ⟨y1, y2, y3⟩ := w2 p hp
    obtain ⟨y4, y5, y6⟩ := hat _ y2
    exact ⟨y1, y4, y5, y6, y3⟩
  · exact J.pin p (List.mem_append_right _ hp)
/-! ### the protocol -/
def Yl (X : Cx) (C : Con) : Protocol := fun n s₀ v s kap =>
  ∃ ys x ip σ H, n + 1 + ys.length = sizeLine ∧ RelV x v ∧ Run X C ip ys σ H s ∧ ∀ s', Asleep C s s' → C.Cs (ys ++ [x]) s'.heap → kap (.send .none) s'
def Rl (X : Cx) (C : Con) (Q : List V → VK) (F : Value → Shared → Prop) : GenEnd := fun n s₀ r s => match r with
  | .ok (.ret u) => ∃ ys v ip σ H, n + ys.length = sizeLine ∧ Run X C ip ys σ H s ∧ RelV v u ∧ Q ys v H
  | .ok _ => False
  | .error e => F e s
def Fl (X : Cx) (C : Con) (ip : List (Addr × Obj)) (D : GEnds) (ys : List V) (f : Flow) (s : Shared) : Prop :=
  match f with
  | .next => ∃ σ H, Run X C ip ys σ H s ∧ D.nx ys σ H
  | .brk => ∃ σ H, Run X C ip ys σ H s ∧ D.bk ys σ H
  | .cont => ∃ σ H, Run X C ip ys σ H s ∧ D.ct ys σ H
  | .ret u => ∃ v σ H, Run X C ip ys σ H s ∧ RelV v u ∧ D.rt ys v H
/-- where the code stands -/
structure Spot (X : Cx) (C : Con) (ip : List (Addr × Obj)) (A : Around) (c : Code) (fs : List Frame) (gd : Bool → Bool) : Prop where
  pn : ∀ p ∈ X.pn, p.1 ∉ C.Ss
  ip : ∀ p ∈ ip, p.1 ∉ C.Ss
  far : Far X C
  over : A.over c fs = X.A
  split : splitAtGen fs = none
  guard : fs.any Frame.guarded = false
  gd : gd false = false
/-- what follows -/
structure Next (X : Cx) (C : Con) (ip : List (Addr × Obj)) (A : Around) (R : GenEnd) (c : Code) (fs : List Frame) (K : Flow → Sem PySem.Fin) (J : Value → Sem PySem.Fin) (D : GEnds) : Prop where
  ok : ∀ (n : Nat) (ys : List V) (s₀ s : Shared) (f : Flow), n + ys.length = sizeLine → Fl X C ip D ys f s → Seg (model X.prog X.w) A R (Yl X C) n s₀ c (K f) fs s
  exc : ∀ (n : Nat) (s₀ : Shared) (e : Value) (s : Shared), X.xe e s → Seg (model X.prog X.w) A R (Yl X C) n s₀ c (J e) fs s
structure One (X : Cx) (st : Stmt) (t : TGn) : Prop where
  run : ∀ (A : Around) (C : Con) (ip : List (Addr × Obj)) (R : GenEnd) (n : Nat) (ys : List V) (s₀ : Shared) (c : Code) (fs : List Frame) (K : Flow → Sem PySem.Fin) (J : Value → Sem PySem.Fin) (gd : Bool → Bool) (lv : List Value → List Value) (s : Shared) (σ : L2.St) (H : Hp) (D : GEnds),
    Spot X C ip A c fs gd → n + ys.length = sizeLine → Next X C ip A R c fs K J D → Run X C ip ys σ H s → t D ys σ H →
    Seg (model X.prog X.w) A R (Yl X C) n s₀ c ((exec st X.env).wrap K J gd lv) fs s
structure All (X : Cx) (st : List Stmt) (t : TGn) : Prop where
  run : ∀ (A : Around) (C : Con) (ip : List (Addr × Obj)) (R : GenEnd) (n : Nat) (ys : List V) (s₀ : Shared) (c : Code) (fs : List Frame) (K : Flow → Sem PySem.Fin) (J : Value → Sem PySem.Fin) (gd : Bool → Bool) (lv : List Value → List Value) (s : Shared) (σ : L2.St) (H : Hp) (D : GEnds),
    Spot X C ip A c fs gd → n + ys.length = sizeLine → Next X C ip A R c fs K J D → Run X C ip ys σ H s → t D ys σ H →
    Seg (model X.prog X.w) A R (Yl X C) n s₀ c ((execs st X.env).wrap K J gd lv) fs s
section
variable {st : Stmt} {rest : List Stmt}
theorem fl_of {os : List (Addr × Obj)} {s' : Shared} {D : GEnds} {f : Flow} (e : os.map (·.1) = C.Ss) (I : Inv X (os ++ ip) σ H s) (c : C.Cs ys s.heap) (h : SP X (os ++ ip) (D.at ys) f s') : Fl X C ip D ys f s' := by
  cases f with
  | next => obtain ⟨σ', H', J, q⟩ := h; exact ⟨σ', H', .after e I c J, q⟩
  | brk => obtain ⟨σ', H', J, q⟩ := h; exact ⟨σ', H', .after e I c J, q⟩
  | cont => obtain ⟨σ', H', J, q⟩ := h; exact ⟨σ', H', .after e I c J, q⟩
  | ret u => obtain ⟨v, σ', H', J, r1, q⟩ := h; exact ⟨v, σ', H', .after e I c J, r1, q⟩
theorem one_ps {t : TS} (h : PS X st t) : One X st (tPlain t) := by
  refine ⟨fun A C ip R n ys s₀ c fs K J gd lv s σ H D g hn k hI ht => ?_⟩
  obtain ⟨os, e, I, hc⟩ := hI
  refine seg_wrap ?_
  rw [g.over]
  exact wpAny_mono (h.run _ s σ H (D.at ys) I ht) (fun f s' hs => k.ok n ys s₀ s' f hn (fl_of e I hc hs)) fun x s' hx => k.exc n s₀ x s' hx
theorem all_pss {t : TS} (h : PSs X rest t) : All X rest (tPlain t) := by
  refine ⟨fun A C ip R n ys s₀ c fs K J gd lv s σ H D g hn k hI ht => ?_⟩
  obtain ⟨os, e, I, hc⟩ := hI
  refine seg_wrap ?_
  rw [g.over]
  exact wpAny_mono (h.run _ s σ H (D.at ys) I ht) (fun f s' hs => k.ok n ys s₀ s' f hn (fl_of e I hc hs)) fun x s' hx => k.exc n s₀ x s' hx
theorem all_nil : All X [] tG0 := by
  refine ⟨fun A C ip R n ys s₀ c fs K J gd lv s σ H D g hn k hI ht => ?_⟩
  exact seg_execs_nil (k.ok n ys s₀ s .next hn ⟨σ, H, hI, ht⟩)
theorem all_cons {t u : TGn} (a : One X st t) (b : All X rest u) : All X (st :: rest) (tGThen t u) := by
  refine ⟨fun A C ip R n ys s₀ c fs K J gd lv s σ H D g hn k hI ht => ?_⟩
  refine seg_execs_cons ?_
  refine a.run A C ip R n ys s₀ c fs _ J gd lv s σ H { D with nx := fun ys' σ' H' => u D ys' σ' H' } g hn ⟨fun n' ys' s₀' s' f hn' hs => ?_, k.exc⟩ hI ht
  cases f with
  | next =>
    obtain ⟨σ', H', I', q⟩ := hs
    exact b.run A C ip R n' ys' s₀' c fs K J gd lv s' σ' H' D g hn' k I' q
  | brk => exact k.ok n' ys' s₀' s' .brk hn' hs
  | cont => exact k.ok n' ys' s₀' s' .cont hn' hs
  | ret u => exact k.ok n' ys' s₀' s' (.ret u) hn' hs
/-- yield -/
theorem one_yield {e : Expr} {yp pos : Pos} {te : TE} (he : PE X e te) (hco : X.env.scope.isCoroutine = false := by rfl) (hi : interactive X.env = false := by rfl) : One X (.Expr (.Yield (some e) yp) pos) (tGYield te) := by
  refine ⟨fun A C ip R n ys s₀ c fs K J gd lv s σ H D g hn k hI ht => ?_⟩
  obtain ⟨hlt, ht⟩ := ht
  obtain ⟨n, rfl⟩ : ∃ m, n = m + 1 := ⟨n - 1, by omega⟩
  obtain ⟨os, e0, I, hc⟩ := hI
  refine seg_Expr_Yield g.split g.gd g.guard ?_ hco hi
  rw [g.over]
  refine wpAny_mono (he.run _ s σ H _ I ht) (fun v s' hv => ?_) fun x s' hx => k.exc _ s₀ x s' hx
  obtain ⟨x, H1, I1, rv, q⟩ := hv
  have G1 : Run X C ip ys σ H1 s' := .after e0 I hc I1
  intro kap hk
  refine ⟨ys, x, ip, σ, H1, hn, rv, G1, fun s'' z zc => hk .none s'' ?_⟩
  refine k.ok n (ys ++ [x]) s'' s'' .next ?_ ⟨σ, H1, G1.woken g.pn g.ip g.far z zc, q⟩
  rw [List.length_append, List.length_singleton]; omega
end
end Gw

set_option Elab.async false
set_option linter.all false
set_option maxRecDepth 100000
set_option maxHeartbeats 4000000
namespace Gw
open PySem PySem.Spec PyProof.Rows GenW L2
variable {X : Cx}
section
variable {C : Con} {ip : List (Addr × Obj)} {A : Around} {c c' : Code} {fs : List Frame} {gd : Bool → Bool}
theorem Spot.loop {k : Result → Sem PySem.Fin} {l kp : List Value} {p : Pos} (g : Spot X C ip A c fs gd) (hw : c'.weight = 0) (hu : c'.cUnits = 0) : Spot X C ip A c' (.ret k none (gd false) l c p kp :: fs) id where
  pn := g.pn
  ip := g.ip
  far := g.far
  over := (over_loop hw hu).trans g.over
  split := by
    show (splitAtGen fs).map _ = none
    rw [g.split]; rfl
  guard := by
    show (gd false || fs.any Frame.guarded) = false
    rw [g.gd, g.guard]; rfl
  gd := rfl
theorem back_seg {R : GenEnd} {K : Flow → Sem PySem.Fin} {J : Value → Sem PySem.Fin} {lv : List Value → List Value} {D : GEnds} {n : Nat} {s₀ s : Shared} {e : Value}
    (g : Spot X C ip A c fs gd) (k : Next X C ip A R c fs K J D) (h : cameBackBy (model X.prog X.w) X.A X.env X.xe e s) :
    Seg (model X.prog X.w) A R (Yl X C) n s₀ c (((Sem.raise e : Sem Flow).onRaise (cameBack X.env)).wrap K J gd lv) fs s := by
  show Seg _ _ _ _ _ _ _ (((cameBack X.env e).bind fun _ => (Sem.raise e : Sem Flow)).wrap K J gd lv) _ _
  rw [Sem.bind_eq_wrap, Sem.wrap_wrap]
  refine seg_wrap ?_
  rw [g.over]
  exact wpAny_mono h (fun _ s' hx => k.exc n s₀ e s' hx) fun x s' hx => k.exc n s₀ x s' hx
end
/-- while -/
theorem one_while {test : Expr} {body : List Stmt} {pos : Pos} {tc : TT} {tb : TGn} (hp : PassesOwn (model X.prog X.w) X.A X.env X.xe) (hc : PT X test tc) (hb : All X body tb) : One X (.While test body [] pos) (tGWhile tc tb) := by
  refine ⟨fun A C ip R n ys s₀ c fs K J gd lv s σ H D g hn k hI ht => ?_⟩
  obtain ⟨W, ⟨m0, w0⟩, turn⟩ := ht
  refine seg_While fun p => ?_
  have gl := fun (kk : Result → Sem PySem.Fin) => g.loop (k := kk) (c' := .whileLoop test body [] X.env) (l := lv []) (kp := []) (p := p) rfl rfl
  have loop : ∀ (m n : Nat) (ys : List V) (s₀ s : Shared) (σ : L2.St) (H : Hp), n + ys.length = sizeLine → W m ys σ H → Run X C ip ys σ H s →
      Seg (model X.prog X.w) A R (Yl X C) n s₀ (.whileLoop test body [] X.env) ((model X.prog X.w).den (.whileLoop test body [] X.env))
        (.ret (fun r => ((match r with | .ok f => (.pure f : Sem Flow) | .error e => .raise e).onRaise (cameBack X.env)).wrap K J gd lv) none (gd false) (lv []) c p [] :: fs) s := by
    intro m
    induction m using Nat.strongRecOn with
    | ind m ih =>
      intro n ys s₀ s σ H hn w hI
      have ee : ∀ (n : Nat) (s₀ : Shared) (x : Value) (s' : Shared), X.xe x s' → Seg (model X.prog X.w) A R (Yl X C) n s₀ (.whileLoop test body [] X.env)
          ((do noteFrame x X.env; theTreesLotGoes x : Sem Unit).wrap (fun _ => .raise x) .raise id id)
          (.ret (fun r => ((match r with | .ok f => (.pure f : Sem Flow) | .error e => .raise e).onRaise (cameBack X.env)).wrap K J gd lv) none (gd false) (lv []) c p [] :: fs) s' := fun n s₀ x s' hx => by
        refine seg_wrap ?_
        rw [(gl _).over]
        refine wpAny_bind (wpAny_mono (hp x s' hx) (fun _ s'' hcb => wpAny_theTreesLotGoes ?_) fun y s'' hcb => ?_)
        · exact seg_leaf (.error x) (back_seg g k hcb)
        · exact seg_leaf (.error y) (back_seg g k hcb)
      refine seg_whileLoop ?_
      rw [(gl _).over]
      obtain ⟨os, e0, I, hcs⟩ := hI
      refine wpAny_mono (hc.run _ s σ H _ I (turn m ys σ H w)) (fun b s' hb' => ?_) fun x s' hx => ee n s₀ x s' hx
      obtain ⟨H2, I2, q2⟩ := hb'
      have hI2 : Run X C ip ys σ H2 s' := .after e0 I hcs I2
      cases b with
      | true =>
        obtain ⟨N, hN, q2⟩ := q2
        rw [if_pos rfl]
        refine hb.run A C ip R n ys s₀ _ _ _ _ id id s' σ H2 { D with nx := N, ct := N, bk := D.nx } (gl _) hn ⟨fun n' ys' s₀' s3 f hn' hs => ?_, fun n' s₀' x s3 hx => ee n' s₀' x s3 hx⟩ hI2 q2
        cases f with
        | next =>
          obtain ⟨σ3, H3, I3, n3⟩ := hs
          obtain ⟨m', hm, w3⟩ := hN ys' σ3 H3 n3
          exact seg_again rfl (ih m' hm n' ys' s₀' s3 σ3 H3 hn' w3 I3)
        | cont =>
          obtain ⟨σ3, H3, I3, n3⟩ := hs
          obtain ⟨m', hm, w3⟩ := hN ys' σ3 H3 n3
          exact seg_again rfl (ih m' hm n' ys' s₀' s3 σ3 H3 hn' w3 I3)
        | brk => exact seg_leaf (.ok .next) (k.ok n' ys' s₀' s3 .next hn' hs)
        | ret v => exact seg_leaf (.ok (.ret v)) (k.ok n' ys' s₀' s3 (.ret v) hn' hs)
      | false =>
        rw [if_neg Bool.false_ne_true]
        refine seg_execs_nil ?_
        exact seg_leaf (.ok .next) (k.ok n ys s₀ s' .next hn ⟨σ, H2, hI2, q2⟩)
  exact loop m0 n ys s₀ s σ H hn w0 hI
end Gw

set_option Elab.async false
set_option linter.all false
set_option maxRecDepth 100000
set_option maxHeartbeats 4000000
namespace Gw
open PySem PySem.Spec PyProof.Rows GenW L2
/-! ### a generator def's call -/
/-- the end of a run: the frame is left, all is handed out; or an exception leaves it -/
def EndC (P : Program) (w : World) (outer : List Env) (H : Hp) (s : Shared) (C : Con) (a : Addr) (g : Nat) (Q : List V → Hp → Prop) (E : XK) : GenEnd := fun n s₀ r s1 =>
  ((r = .ok (.ret .none) ∨ r = .ok .next) ∧ ∃ H' ys, s1.os = s.os ∧ AllBare s1.gens ∧ Un (frs outer) [] H H' s.heap s1.heap ∧ HOk P w H' s1.heap ∧ (∀ b ∈ C.Ss, H' b = none) ∧ C.Cs ys s1.heap ∧ ys.length ≤ sizeLine ∧ Q ys H') ∨
  ∃ e, r = .error e ∧ L2.CX P w outer H s E e s1 ∧ s1.heap.IsGen a g
/-- an item is handed out -/
def ItemC (s : Shared) (C : Con) (a : Addr) (g : Nat) : Protocol := fun n s₀ v s1 kap =>
  s1.os = s.os ∧ AllBare s1.gens ∧ s1.heap.NoLimit ∧ s1.heap.IsGen a g ∧ ∃ ys x, RelV x v ∧ C.Cs ys s1.heap ∧ n + 1 + ys.length = sizeLine ∧ ∀ s', Asleep C s1 s' → C.Cs (ys ++ [x]) s'.heap → kap (.send .none) s'
/-- a generator that has not begun -/
def Made (P : Program) (w : World) (k : Nat) (outer : List Env) (H : Hp) (s : Shared) (Q : List V → Hp → Prop) (E : XK) (u : Value) (s' : Shared) : Prop :=
  ∃ (a : Addr) (g : Nat) (c : Code), u = .ref a ∧ s.heap.objs.size ≤ a ∧ a < s'.heap.objs.size ∧ s'.heap.IsGen a g ∧ s'.gens[g]? = some (.fresh c) ∧ s'.os = s.os ∧ AllBare s'.gens ∧ s'.heap.NoLimit ∧ (∀ b o, s.heap.get? b = some o → s'.heap.get? b = some o) ∧
    ∀ (A : Around) (C : Con) (s2 : Shared), Room k A → A.frames = some outer → (∀ b ∈ C.Ss, s'.heap.objs.size ≤ b) → (∀ b o, s'.heap.get? b = some o → s2.heap.get? b = some o) → (∀ b ∈ C.Ss, ∃ o, s2.heap.get? b = some o ∧ ∀ v, o.data ≠ .cell v) → C.Cs [] s2.heap → s2.os = s.os → AllBare s2.gens →
      Seg (model P w) A (EndC P w outer H s C a g Q E) (ItemC s C a g) sizeLine s2 c ((model P w).den c) [] s2
structure GFnC (P : Program) (w : World) (K : PySem.W.Frag) (mg : Str → Option Value) (base : Heap) (k : Nat) (f : Addr) (fd : FuncData) (ps : List Str) (sp : SpG) : Prop where
  len : ∀ vs H Q E, sp vs H Q E → vs.length = ps.length
  run : ∀ (A : Around) (outer : List Env) (s : Shared) (H : Hp) (args : Args) (us : List Value) (vs : List V) (Q : List V → Hp → Prop) (E : XK), Room k A → Env0 P w K mg base A outer s H → BindsTo s fd args (ps.zip us) → Vals vs us → sp vs H Q E →
    codeAny (model P w) A (.call (.ref f) args) (fun r s' => match r with | .ok (.ret u) => Made P w k outer H s Q E u s' | _ => False) s
/-- by its body -/
theorem gfnC_of {P : Program} {w : World} {K : PySem.W.Frag} {mg : Str → Option Value} {base : Heap} {k : Nat} {f : Addr} {name qual : Str} {params : Arguments} {body : List Stmt} {scope : Scope} {dV kV doc pm cdv ct oc : Value} {an od : Option Addr}
    {osl : Array (Option Value)} {N ps : List Str} {sp : SpG} (lk : K.lookup f = some ⟨oc, od, .func (PySem.W.fnOf name qual params body scope dV kV doc pm an cdv ct), osl⟩) (hcd : PySem.W.codeIn K cdv qual = true) (S : GScope N ps scope)
    (len : ∀ vs H Q E, sp vs H Q E → vs.length = ps.length)
    (hbody : ∀ (A : Around) (outer : List Env) (s : Shared) (H : Hp) (vs : List V) (Q : List V → Hp → Prop) (E : XK) (pn : List (Addr × Obj)), Room k (A.deeper (envOfC qual scope s.heap.objs.size f cdv)) → sp vs H Q E →
      ∃ t, All (gcxOf P w K mg base N qual scope f cdv A outer s H E pn) body t ∧ t { nx := fun ys _ H' => Q ys H', rt := fun ys v H' => v = .non ∧ Q ys H' } [] (start N vs) H) :
    GFnC P w K mg base (k + 1) f (PySem.W.fnOf name qual params body scope dV kV doc pm an cdv ct) ps sp := by
  refine ⟨len, fun A outer s H args us vs Q E hr e0 hb r hsp => ?_⟩
  have hl := len _ _ _ _ hsp
  have KX : K.In s.heap := e0.mod.kin.keeps fun b o e => (e0.bs b o e).1
  have lim : s.heap.NoLimit := e0.mod.nolimit.keeps fun b o e => (e0.bs b o e).1
  have hkind : ∀ y ∈ ps.zip us, scope.names.lookup y.1 = some .local ∨ (scope.names.lookup y.1 = some .cell ∧ ((cellsFrom (s.heap.objs.size + 1) scope.names []).lookup y.1).isSome = true) := fun ⟨n, v⟩ hy => by
    rcases S.par n (List.of_mem_zip hy).1 with q | q
    · exact .inl q
    · exact .inr ⟨q, PySem.W.cellsFrom_some _ _ _ (.inl q)⟩
  refine codeAny_call_generator hr.depth (KX _ _ lk) rfl S.co S.gen rfl (PySem.W.codeRec_of KX hcd) (hb _ _ _ _ ?_)
  refine wpAny_newFunctionEnv_cells S.kind hkind fun env he s1 x => ?_
  subst he
  have lim1 : s1.heap.NoLimit := lim.keeps x.toInCall.keep
  refine ⟨lim1, ?_⟩
  obtain ⟨h1, tk, es1, hk1⟩ := x.done
  have os1 : s1.os = s.os := by rw [es1]
  have gen1 : s1.gens = s.gens := by rw [es1]
  have lt1 : s.heap.objs.size < s1.heap.objs.size := x.toInCall.ns.lt
  have sz1 : s.heap.objs.size ≤ s1.heap.objs.size := Nat.le_of_lt lt1
  have kp1 : ∀ b o, s.heap.get? b = some o → s1.heap.get? b = some o := x.toInCall.keep
  have main : ∀ (go : Obj) (nm qn : Value) (tk2 : Nat), go.cls = .type "generator" → go.data = .fields #[.int s1.gens.size 0, nm, qn] → go.slots = #[] → (∀ h : Heap, (h.push go).get? h.objs.size = some go) →
      Made P w (k + 1) outer H s Q E (.ref s1.heap.objs.size) { s1 with gens := s1.gens.push (.fresh (.func body (envOfC qual scope s.heap.objs.size f cdv))), toks := tk2, heap := s1.heap.push go } := by
    intro go nm qn tk2 hgc hgd0 hgs hgp
    have hgen : ∀ h : Heap, h.get? s1.heap.objs.size = some go → h.IsGen s1.heap.objs.size s1.gens.size := fun h e => ⟨go, nm, qn, e, hgc, hgd0, hgs⟩
    have hpushed : (s1.heap.push go).get? s1.heap.objs.size = some go := hgp _
    refine ⟨s1.heap.objs.size, s1.gens.size, _, rfl, sz1, ?_, hgen _ hpushed, Array.getElem?_push_size .., os1, ?_, lim1.keeps fun b o e => Heap.get?_push_of_some _ e, fun b o e => Heap.get?_push_of_some _ (kp1 b o e), ?_⟩
    · show _ < (s1.heap.push _).objs.size
      rw [Heap.size_push]; exact Nat.lt_succ_self _
    · exact AllBare.push (by rw [gen1]; exact e0.bare) rfl
    intro Aw C s2 hrw hfr hSx hk2 hSo hC0 hos hba
    have e0w : Env0 P w K mg base Aw outer s H := ⟨hfr, e0.mod, e0.bs, e0.bsz, e0.funs, e0.frf, e0.hok, e0.bare⟩
    obtain ⟨t, ht, hq⟩ := hbody Aw outer s H vs Q E [(s1.heap.objs.size, go)] (hrw.deeper _) hsp
    have I1 : Inv (gcxOf P w K mg base N qual scope f cdv Aw outer s H E []) [] (start N vs) H s1 := inv_startG S hrw.hd e0w hl r x
    have kp2 : ∀ b o, s1.heap.get? b = some o → s2.heap.get? b = some o := fun b o e => hk2 b o (Heap.get?_push_of_some _ e)
    have I2 : Inv (gcxOf P w K mg base N qual scope f cdv Aw outer s H E []) [] (start N vs) H s2 :=
      I1.call' (ch := []) (hos.trans os1.symm) (Un.kept kp2) (I1.hok.kept kp2) hba fun b z => by simp at z
    have hSz : ∀ b ∈ C.Ss, s1.heap.objs.size < b := fun b hb => by
      have := hSx b hb
      have hSx' : (s1.heap.push go).objs.size ≤ b := this
      rw [Heap.size_push] at hSx'
      exact hSx'
    have hea : s2.heap.get? s1.heap.objs.size = some go := hk2 s1.heap.objs.size go hpushed
    have hgd : ∀ v, go.data ≠ .cell v := fun v q => by rw [hgd0] at q; cases q
    have young : ∀ b, s1.heap.objs.size ≤ b → H b = none ∧ b ≠ s.heap.objs.size ∧ b ∉ frs outer ∧ s.heap.objs.size ≤ b ∧ ∀ y c, (cellsFrom (s.heap.objs.size + 1) scope.names []).lookup y = some c → c ≠ b := fun b hb => by
      refine ⟨I1.hok.fresh hb, Nat.ne_of_gt (Nat.lt_of_lt_of_le lt1 hb), I1.nofs hb, Nat.le_trans sz1 hb, fun y c e z => ?_⟩
      obtain ⟨v, ob, ho, _⟩ := I1.cell y c e
      have := Heap.lt_size ho
      rw [z] at this
      exact absurd (Nat.lt_of_lt_of_le this hb) (Nat.lt_irrefl _)
    have theirs : ∀ l : List Addr, (∀ b ∈ l, b ∈ C.Ss) → ∃ os : List (Addr × Obj), os.map (·.1) = l ∧ ∀ p ∈ os, s2.heap.get? p.1 = some p.2 ∧ p.1 ∈ C.Ss ∧ ∀ v, p.2.data ≠ .cell v := fun l => by
      induction l with
      | nil => intro _; exact ⟨[], rfl, fun p hp => by cases hp⟩
      | cons b l ih =>
        intro hl
        obtain ⟨o', q1, q2⟩ := hSo b (hl b List.mem_cons_self)
        obtain ⟨os', w1, w2⟩ := ih fun c hcc => hl c (List.mem_cons_of_mem _ hcc)
        refine ⟨(b, o') :: os', by rw [List.map_cons, w1], fun p hp => ?_⟩
        rcases List.mem_cons.mp hp with y | y
        · rw [y]; exact ⟨q1, hl b List.mem_cons_self, q2⟩
        · exact w2 p y
    have hG : Run (gcxOf P w K mg base N qual scope f cdv Aw outer s H E [(s1.heap.objs.size, go)]) C [] [] (start N vs) H s2 := by
      obtain ⟨os, w1, w2⟩ := theirs C.Ss fun _ y => y
      refine ⟨os, w1, Inv.pinnedG I2 fun p hp => ?_, hC0⟩
      rw [List.append_nil] at hp
      rcases List.mem_append.mp hp with z | z
      · rw [List.mem_singleton.mp z]
        obtain ⟨y1, y2, y3, _, _⟩ := young s1.heap.objs.size (Nat.le_refl _)
        exact ⟨hea, y1, y2, y3, hgd⟩
      · obtain ⟨x1, x2, x3⟩ := w2 p z
        obtain ⟨y1, y2, y3, _, _⟩ := young p.1 (Nat.le_of_lt (hSz _ x2))
        exact ⟨x1, y1, y2, y3, x3⟩
    have hAp : Far (gcxOf P w K mg base N qual scope f cdv Aw outer s H E [(s1.heap.objs.size, go)]) C := fun b hb => by
      obtain ⟨_, y2, _, y4, y5⟩ := young b (Nat.le_of_lt (hSz b hb))
      exact ⟨y4, y2, y5⟩
    have hpn : ∀ p ∈ [(s1.heap.objs.size, go)], p.1 ∉ C.Ss := fun p hp hb => by
      rw [List.mem_singleton.mp hp] at hb
      exact absurd (hSz _ hb) (Nat.lt_irrefl _)
    have pinned : ∀ {ip : List (Addr × Obj)} {ys : List V} {s' : Shared} {σ' : L2.St} {H' : Hp}, Run (gcxOf P w K mg base N qual scope f cdv Aw outer s H E [(s1.heap.objs.size, go)]) C ip ys σ' H' s' → s'.heap.IsGen s1.heap.objs.size s1.gens.size := fun {ip ys s' σ' H'} hI => by
      obtain ⟨os, _, J, _⟩ := hI
      exact hgen _ (J.pin (s1.heap.objs.size, go) (List.mem_append_left _ (List.mem_singleton.mpr rfl))).1
    refine seg_func ?_
    refine seg_imp (R := Rl (gcxOf P w K mg base N qual scope f cdv Aw outer s H E [(s1.heap.objs.size, go)]) C (fun ys v H' => v = .non ∧ Q ys H') fun e s' => L2.CX P w outer H s E e s' ∧ ∀ p ∈ [(s1.heap.objs.size, go)], s'.heap.get? p.1 = some p.2)
      (Y := Yl (gcxOf P w K mg base N qual scope f cdv Aw outer s H E [(s1.heap.objs.size, go)]) C) (fun n s₀ r s1' hR => ?_) (fun n s₀ v s1' kap kap' hkk hY => ?_) sizeLine ?_
    · cases r with
      | error e =>
        obtain ⟨q1, q2⟩ := hR
        exact .inr ⟨e, rfl, q1, hgen _ (q2 (s1.heap.objs.size, go) (List.mem_singleton.mpr rfl))⟩
      | ok fl =>
        cases fl with
        | next => exact False.elim hR
        | brk => exact False.elim hR
        | cont => exact False.elim hR
        | ret u =>
          obtain ⟨ys, v, ip, σ', H', hn, hI, rv, ev, hQ⟩ := hR
          subst ev
          have eu : u = Value.none := rv
          subst eu
          have hat := hI.at
          obtain ⟨_, _, J, hc⟩ := hI
          exact .inl ⟨.inl rfl, H', ys, J.os, J.bare, J.base, J.hok, fun b hb => (hat b hb).1, hc, by omega, hQ⟩
    · obtain ⟨ys, xx, ip, σ', H', hn, h2, hI, h3⟩ := hY
      have hg := pinned hI
      obtain ⟨_, _, J, hc⟩ := hI
      exact ⟨J.os, J.bare, J.nolimit, hg, ys, xx, h2, hc, hn, fun s' z zc => hkk _ _ (h3 s' z zc)⟩
    · refine ht.run Aw C [] _ sizeLine [] s2 _ [] _ _ id id s2 (start N vs) H _ ⟨hpn, fun p hp => (by simp at hp), hAp, over_func, rfl, rfl, rfl⟩ (Nat.add_zero _) ⟨fun n ys s₀ s' fl hn hs => ?_, fun n s₀ e s' hx => ?_⟩ hG hq
      · cases fl with
        | next =>
          obtain ⟨σ', H', hI, hQ⟩ := hs
          exact seg_end (.ok (.ret .none)) ⟨ys, .non, [], σ', H', hn, hI, rfl, rfl, hQ⟩
        | brk => obtain ⟨_, _, _, q⟩ := hs; exact False.elim q
        | cont => obtain ⟨_, _, _, q⟩ := hs; exact False.elim q
        | ret u =>
          obtain ⟨v, σ', H', hI, rv, ev, hQ⟩ := hs
          exact seg_end (.ok (.ret u)) ⟨ys, v, [], σ', H', hn, hI, rv, ev, hQ⟩
      · refine seg_wrap ?_
        rw [over_func]
        refine wpAny_mono (show wpAny (model P w) (Aw.deeper (envOfC qual scope s.heap.objs.size f cdv)) (leaving (envOfC qual scope s.heap.objs.size f cdv) e) (fun _ s'' => L2.CX P w outer H s E e s'' ∧ ∀ p ∈ [(s1.heap.objs.size, go)], s''.heap.get? p.1 = some p.2) (fun _ _ => False) s' from hx) (fun _ s'' q => ?_) fun _ s'' q => q.elim
        exact seg_end (.error e) q
  exact main _ _ _ _ rfl rfl rfl fun h => Heap.get?_push_size _ rfl
end Gw

set_option Elab.async false
set_option linter.all false
set_option maxRecDepth 100000
set_option maxHeartbeats 4000000
/-! derivations of generator defs over Gw's judgements (the trees and their laws are Mir36's) -/
namespace Py
open PySem L2 PySem.Spec PyProof.Rows Evl
structure DYo (cl : Cl) (X : Cx) (d : Nat) (st : Stmt) (g : Gx) : Prop where
  ex : ∃ t, Gw.One X st t ∧ SSG ⟨X.K, cl⟩ d t g
structure DYa (cl : Cl) (X : Cx) (d : Nat) (st : List Stmt) (g : Gx) : Prop where
  ex : ∃ t, Gw.All X st t ∧ SSG ⟨X.K, cl⟩ d t g
section
variable {cl : Cl} {X : Cx} {d : Nat} {W : WX} {st : Stmt} {rest : List Stmt} {s : Sx} {g h : Gx} {e test : Expr} {p : P.Ex1} {b : P.Bx} {yp pos : Pos}
theorem dyo_plain (k : DS cl X d W st s) : DYo cl X d st (Yl.plain s) := by
  obtain ⟨t, a1, a2⟩ := k
  exact ⟨_, Gw.one_ps a1, ssg_plain a2⟩
theorem dyo_yield (he : DE cl X d W e p) (hco : X.env.scope.isCoroutine = false := by rfl) (hi : interactive X.env = false := by rfl) : DYo cl X d (.Expr (.Yield (some e) yp) pos) (Yl.yield p) := by
  obtain ⟨t, a1, a2⟩ := he
  exact ⟨_, Gw.one_yield a1 hco hi, ssg_yield a2⟩
theorem dyo_while (n : Nat) (hp : PassesOwn (model X.prog X.w) X.A X.env X.xe) (hc : DT cl X d W test b) (hb : DYa cl X d rest g) : DYo cl X d (.While test rest [] pos) (Yl.while_ b g n) := by
  obtain ⟨t, a1, a2⟩ := hc
  obtain ⟨u, b1, b2⟩ := hb
  exact ⟨_, Gw.one_while hp a1 b1, ssg_while a2 b2⟩
theorem dya_nil : DYa cl X d [] Yl.skip := ⟨_, Gw.all_nil, ssg_nil⟩
theorem dya_cons (a : DYo cl X d st g) (k : DYa cl X d rest h) : DYa cl X d (st :: rest) (Yl.seq g h) := by
  obtain ⟨t, a1, a2⟩ := a
  obtain ⟨u, b1, b2⟩ := k
  exact ⟨_, Gw.all_cons a1 b1, ssg_cons a2 b2⟩
end
structure GokC (cl : Cl) (P : Program) (w : World) (K : PySem.W.Frag) (mg : Str → Option Value) (base : Heap) (x : Str) (k n : Nat) (f : Nat → List T → Res (List T)) : Prop where
  ex : ∃ fa fd ps, Gw.GFnC P w K mg base k fa fd ps (spG ⟨K, cl⟩ n f) ∧ Binds K fd ps [] ∧ PySem.W.keepIn K (.ref fa) = true ∧ mg x = some (.ref fa)
theorem gokC_of {cl : Cl} {P : Program} {w : World} {K : PySem.W.Frag} {mg : Str → Option Value} {base : Heap} {x : Str} {st : Stmt} {f : Addr} {fd : FuncData} {N ps : List Str} {k n : Nat} {fT : Nat → List T → Res (List T)} {gT : Nat → Gx}
    (F : FnP K x st f fd) (S : GScope N ps (defScope st)) (hn : n = ps.length) (hle : ps.length ≤ N.length) (p0 : cl.pin = none) (hm : mg x = some (.ref f)) (hf : ∀ d ts, fT d ts = runG N.length (gT d) ts)
    (hb : ∀ (kV doc pm : Value) (an : Option Addr) (cdv ct : Value) (us : List Value), us.length = ps.length → bindArgs (PySem.W.fnOf x x (defArgs st) (defBody st) (defScope st) .none kV doc pm an cdv ct) ⟨us, []⟩ = pure (ps.zip us))
    (h : ∀ (d : Nat) (cdv : Value) (A : Around) (outer : List Env) (s : Shared) (H : Hp) (E : XK) (pn : List (Addr × Obj)), Room k (A.deeper (envOfC x (defScope st) s.heap.objs.size f cdv)) → DYa cl (GOf P w K mg base N x (defScope st) f cdv A outer s H E pn) d (defBody st) (gT d)) :
    GokC cl P w K mg base x (k + 1) n fT := by
  refine ⟨f, fd, ps, ?_, F.bindsN hb, F.kp, hm⟩
  subst hn
  obtain ⟨oc, od, dV, kV, doc, pm, an, cdv, ct, osl, rfl, lk, hcd, _, _⟩ := F.ex
  refine Gw.gfnC_of lk hcd S (fun vs H Q E h => h.1) fun A outer s H vs Q E pn hr hsp => ?_
  obtain ⟨hl, d, A0, F0, ts, ok, dep, e, r, o⟩ := hsp
  obtain ⟨t, a1, a2⟩ := h d cdv A outer s H E pn hr
  refine ⟨t, a1, a2 A0 F0 H A0 (ent N.length ts) (L2.start N vs) F0 H _ [] [] (rel_start (G := ⟨K, cl⟩) ok dep e r (by rw [← r.length, hl]; exact hle) p0) rfl ?_⟩
  rw [hf] at o
  unfold runG at o
  cases z : gT d [] (ent N.length ts) with
  | nx ys env => rw [z] at o; exact fun us A σ F H hu R => o us F H hu R.growF
  | rt ys => rw [z] at o; exact fun us F H hu g => ⟨rfl, o us F H hu g⟩
  | br ys env => rw [z] at o; exact o.elim
  | ct ys env => rw [z] at o; exact o.elim
  | stuck => rw [z] at o; exact o.elim
end Py

set_option Elab.async false
set_option linter.all false
set_option maxRecDepth 100000
set_option maxHeartbeats 4000000
/-! [x for x in g(..)], g a generator def -/
namespace Gw
open PySem PySem.Spec PyProof.Rows GenW L2
/-- the comprehension's list at D, its names at C -/
def conL (D C : Addr) : Con where
  Ss := [D, C]
  Cs ys h := (∃ acc c, h.get? D = some (lstObj acc c) ∧ Vals ys acc.toList) ∧ ∃ m, h.Ns C m
  same ys h h' e := fun ⟨⟨acc, c, h1, h2⟩, m, o, es, ep, h3, h4⟩ =>
    ⟨⟨acc, c, (e D (by simp)).trans h1, h2⟩, m, o, es, ep, (e C (by simp)).trans h3, h4⟩
abbrev NoE : XK := fun _ _ _ => False
/-- an expression whose value is a generator that has not begun -/
structure PGenC (X : Cx) (k : Nat) (e : Expr) (tg : TGen) : Prop where
  run : ∀ (pins : List (Addr × Obj)) (s : Shared) (σ : L2.St) (H : Hp) (cont : List V → Hp → Prop), Inv X pins σ H s → tg σ H cont → wpAny (model X.prog X.w) X.A (eval e X.env)
    (fun u s' => ∃ H1 sc, Inv X pins σ H1 sc ∧ Made X.prog X.w k X.stack H1 sc cont NoE u s') X.xe s
section
variable {X : Cx} {k : Nat} {f : Addr} {fd : FuncData} {ps : List Str} {sp : SpG} {dvs : List V} {ds : List Value} {x : Str} {p pos pos' : Pos}
theorem run_gfnC {pins : List (Addr × Obj)} {σ : L2.St} {H : Hp} {s : Shared} {us : List Value} {vs : List V} {cont : List V → Hp → Prop} {E1 : Value → Shared → Prop} (F : GFnC X.prog X.w X.K X.mg X.base k f fd ps sp) (hr : Room k X.A) (hb : Binds X.K fd ps ds) (hd : Vals dvs ds)
    (I : Inv X pins σ H s) (r : Vals vs us) (h : sp (vs ++ dvs) H cont NoE) :
    wpAny (model X.prog X.w) X.A (call (.ref f) us) (fun u s' => ∃ H1 sc, Inv X pins σ H1 sc ∧ Made X.prog X.w k X.stack H1 sc cont NoE u s') E1 s := by
  have r2 : Vals (vs ++ dvs) (us ++ ds) := r.append hd
  have hl2 : (us ++ ds).length = ps.length := by rw [← r2.length]; exact F.len _ _ _ _ h
  refine wpAny_call (codeAny_mono (F.run X.A X.stack s H ⟨us, []⟩ (us ++ ds) (vs ++ dvs) cont NoE hr I.env0 (hb s us I.kIn hl2) r2 h) fun r s' hq => ?_)
  cases r with
  | error e => exact False.elim hq
  | ok fl =>
    cases fl with
    | ret u => exact ⟨H, s, I, hq⟩
    | next => exact False.elim hq
    | brk => exact False.elim hq
    | cont => exact False.elim hq
theorem pgenC_call {e : Expr} {es : List Expr} {t : TA} (F : GFnC X.prog X.w X.K X.mg X.base k f fd ps sp) (hr : Room k X.A) (hg : Gl X x) (hm : X.mg x = some (.ref f)) (hk : PySem.W.keepIn X.K (.ref f) = true) (hb : Binds X.K fd ps ds) (hd : Vals dvs ds)
    (ha : PA X (e :: es) t) (hdb : (x == ("__debug__" : Str)) = false := by decide) (he : starEach (e :: es) X.env = (false, eval e X.env) :: starEach es X.env := by rfl) (hpl : (backTo pos' (starEach es X.env)).any (·.1) = false := by rfl) :
    PGenC X k (.Call (.Name x p) (e :: es) [] pos') (tCallG sp dvs NoE t) := by
  refine ⟨fun pins s σ H cont I h => ?_⟩
  refine wpAny_Call_Name_kw (ld_glob I hg hm ?_ hdb)
  refine PySem.W.callWith_K (h₀ := X.base) I.ok.mod.kin hk (thn (ha.run pos' pins s σ H _ I h) fun us s1 ⟨vs, H1, I1, r, q⟩ => ⟨I1.kIn, ?_⟩) he hpl
  exact run_gfnC F hr hb hd I1 r q
theorem lcg_core {pins : List (Addr × Obj)} {s : Shared} {σ : L2.St} {H : Hp} {Q : VK} {iter : Expr} {y : Str} {p1 p2 : Pos} {scope : Scope} {own : List (Str × Nat)} {tg : TGen} {use : Option (Value → Sem Unit)} {Qf : Value → Shared → Prop}
    (I : Inv X pins σ H s) (hi : PGenC X k iter tg) (hr : Room (k + 1) X.A) (ok : BlkOk X.N X.env.scope scope own)
    (hy : scope.names.lookup y = some .local) (hdb : (y == ("__debug__" : Str)) = false) (hs : ∀ x, foldedSetIterable iter X.env x = pure x)
    (h : tListG tg σ H Q)
    (hRR : ∀ D C s' m H', Inv X pins σ H' s' → Q (.ref D) H' → s'.heap.Ns C m → FpOk X pins H' C → compPost (model X.prog X.w) X.A X.xe use Qf (.ref D) C (.ok .next) s') :
    wpAny (model X.prog X.w) X.A (comprehension (.ListComp (.Name y p1) [⟨.Name y p2, iter, [], 0⟩] scope pos) scope X.env pos' (newList []) false (eval iter X.env) use) Qf X.xe s := by
  have hfree : ∀ y ∈ scope.names, y.2 = .free → ∃ c, X.env.cells.lookup y.1 = some c := fun y hy e => by
    rcases ok.free y hy e with k | k
    · exact I.ok.has _ (.inl k)
    · exact I.ok.has _ (.inr k)
  refine wpAny_comprehension_free (use := use) rfl hs (closure_ok hfree) ok.kind (fun y hy e => by rw [ok.uniq y hy, e])
    (thn (hi.run pins s σ H _ I h) fun xv s1 hx => ?_)
  obtain ⟨H1, sc, I1, a, g, c0, rfl, ha1, ha2, hg, hgs, hos, hb, hl, hkp, wake⟩ := hx
  refine wpAny_pyIter_gen hg ?_
  refine wpAny_newObj_type (newEnv_comp ?_) (by show 0 ≤ sizeLine; decide)
  generalize hD : s1.heap.objs.size = D
  have hscD : sc.heap.objs.size ≤ D := by rw [← hD]; exact Nat.le_trans ha1 (Nat.le_of_lt ha2)
  generalize hs3 : ({ s1 with heap := s1.heap.push { cls := .type "list", data := .seq ([] : List Value).toArray } } : Shared) = s3
  have h3 : s3.heap = s1.heap.push { cls := .type "list", data := .seq ([] : List Value).toArray } := by rw [← hs3]
  have g3 : s3.gens = s1.gens := by rw [← hs3]
  have o3 : s3.os = s1.os := by rw [← hs3]
  have k3 : ∀ b o, s1.heap.get? b = some o → s3.heap.get? b = some o := fun b o e => by rw [h3]; exact Heap.get?_push_of_some _ e
  have hD3 : s3.heap.get? D = some (lstObj #[] 0) := by rw [h3, ← hD]; exact Heap.get?_push_size _ rfl
  show codeAny _ _ (.compStart (.ListComp (.Name y p1) [⟨.Name y p2, iter, [], 0⟩] scope pos) 0 (.ref a) (.ref D) (compEnvC scope (cellsFrom (s3.heap.objs.size + 1) scope.names (cloFrom X.env.cells scope.names [])) s3.heap.objs.size X.env)) (compPost (model X.prog X.w) X.A X.xe use Qf (.ref D) s3.heap.objs.size) { s3 with heap := pushCells (s3.heap.push { cls := .type "dict", data := .dict #[] }) scope.names }
  generalize hC : s3.heap.objs.size = C
  have hCD : C = D + 1 := by rw [← hC, h3, Heap.size_push, hD]
  have hDC : D ≠ C := by rw [hCD]; exact Nat.ne_of_lt (Nat.lt_succ_self _)
  have kindY : (compEnvC scope (cellsFrom (C + 1) scope.names (cloFrom X.env.cells scope.names [])) C X.env).kindOf y = some .local := lookup_relabel_local hy
  have kindE : (compEnvC scope (cellsFrom (C + 1) scope.names (cloFrom X.env.cells scope.names [])) C X.env).scope.kind = .function := ok.kind
  generalize hce : compEnvC scope (cellsFrom (C + 1) scope.names (cloFrom X.env.cells scope.names [])) C X.env = ce at kindY kindE ⊢
  have cL : ce.locals = C := by rw [← hce]; rfl
  generalize hs4 : ({ s3 with heap := pushCells (s3.heap.push { cls := .type "dict", data := .dict #[] }) scope.names } : Shared) = s4
  have g4 : s4.gens = s1.gens := by rw [← hs4]; exact g3
  have o4 : s4.os = s1.os := by rw [← hs4]; exact o3
  have k34 : ∀ b o, s3.heap.get? b = some o → s4.heap.get? b = some o := fun b o e => by rw [← hs4]; exact pushCells_keeps _ _ _ _ (Heap.get?_push_of_some _ e)
  have k4 : ∀ b o, s1.heap.get? b = some o → s4.heap.get? b = some o := fun b o e => k34 b o (k3 b o e)
  have hD4 := k34 _ _ hD3
  have hC4 : s4.heap.Ns C fun _ => none := by
    rw [← hs4, ← hC]
    exact Heap.Ns.keeps (Heap.Ns.new ..) fun b o e => pushCells_keeps _ _ _ _ e
  have ha : a < D := by rw [← hD]; exact ha2
  have haD : a ≠ D := Nat.ne_of_lt ha
  have haC : a ≠ C := by rw [hCD]; exact Nat.ne_of_lt (Nat.lt_succ_of_lt ha)
  have hcl : cStatics < D := by rw [← hD]; obtain ⟨_, hn, _⟩ := hl; exact hn.lt
  have hSD : cStatics ≠ D := Nat.ne_of_lt hcl
  have hSC : cStatics ≠ C := by rw [hCD]; exact Nat.ne_of_lt (Nat.lt_succ_of_lt hcl)
  have nocell : ∀ {h : Heap} {acc : Array Value} {c : Nat} {m : Str → Option Value}, h.get? D = some (lstObj acc c) → h.Ns C m → ∀ b ∈ (conL D C).Ss, ∃ o, h.get? b = some o ∧ ∀ v, o.data ≠ .cell v := fun {h acc c m} e1 e2 b hb => by
    rcases List.mem_cons.mp hb with z | z
    · rw [z]; exact ⟨_, e1, fun v q => by cases q⟩
    · rw [List.mem_singleton.mp z]
      obtain ⟨o, es, ep, q1, q2, _⟩ := e2
      exact ⟨o, q1, fun v q => by rw [q2] at q; cases q⟩
  have roomI : Room k X.A.in1 := ⟨hr.hd, by have := hr.dp; show X.A.depth + 3 * k + 5 < _; omega, by have := hr.un; show X.A.units + 1 + 16 * k + 200 < _; omega⟩
  have loop : codeAny (model X.prog X.w) X.A (.compLoop (.ListComp (.Name y p1) [⟨.Name y p2, iter, [], 0⟩] scope pos) 0 (.ref a) (.ref D) ce) (compPost (model X.prog X.w) X.A X.xe use Qf (.ref D) C) s4 := by
    refine compLoop_any (fun n s' => s'.heap.IsGen a g ∧ s'.heap.NoLimit ∧ ∃ gs, s'.gens[g]? = some gs ∧ gs.Goes (model X.prog X.w) X.A.in1 (EndC X.prog X.w X.stack H1 sc (conL D C) a g (fun out H2 => ∀ p, H2 p = none → Q (.ref p) (upd H2 p (.lst out))) NoE) (ItemC sc (conL D C) a g) n (.send .none) (s'.setGen g .running)) ?_ sizeLine ?_
    · rintro n s5 ⟨hg5, hl5, gs, hgs5, hgo⟩
      have hgl : g < s5.gens.size := (Array.getElem?_eq_some_iff.mp hgs5).1
      have hgo' : gs.Goes (model X.prog X.w) X.A.in1 (fun n s₀ r s1 => ((r = .ok (.ret .none) ∨ r = .ok .next) ∧ (∃ H' ys, s1.os = sc.os ∧ AllBare s1.gens ∧ Un (frs X.stack) [] H1 H' sc.heap s1.heap ∧ HOk X.prog X.w H' s1.heap ∧ (∀ b ∈ (conL D C).Ss, H' b = none) ∧ (conL D C).Cs ys s1.heap ∧ ys.length ≤ sizeLine ∧ ∀ p, H' p = none → Q (.ref p) (upd H' p (.lst ys)))) ∨
        ∃ e, r = .error e ∧ (L2.CX X.prog X.w X.stack H1 sc NoE e s1 ∧ s1.heap.IsGen a g)) (ItemC sc (conL D C) a g) n (.send .none) (s5.setGen g .running) := hgo
      refine wpAny_gsz (n := g + 1) hgl (next_genG (A := X.A) hr.hd hl5 (by have := hr.dp; omega) hg5 hgs5 hgo' (fun v s₁ gs' hbare hv => ?_) (fun s₁ hp h' hk => ?_) fun e s₁ he => ?_)
      · intro hsz
        obtain ⟨os1, hb1, hl1, hg1, ys, xx, rx, ⟨⟨acc, c, hS1, hacc⟩, m, hm1⟩, hn1, hk⟩ := hv
        have hasz : acc.size < sizeLine := by
          have := hacc.length
          have q : acc.toList.length = acc.size := rfl
          omega
        refine wpAny_pure ?_
        refine wpAny_assign_Name (wpAny_storeName_local (m := m) kindY (by rw [cL]; exact hm1) (fun h6 hn6 hs6 => ?_) (by rw [kindE]; rfl))
        rw [cL] at hn6 hs6
        refine wpAny_tests_nil ?_
        rw [if_pos rfl]
        refine wpAny_Name (wpAny_loadName_local kindE kindY (by rw [cL]; exact hn6) (show (if y = y then some v else m y) = some v by rw [if_pos rfl]) ?_) hdb
        have hD6 : h6.get? D = some (lstObj acc c) := (hs6.2 D hDC).trans hS1
        refine append_at (its := acc) (n := c) hD6 (fun h7 hs7 ho7 => ?_) (Nat.le_of_lt hasz)
        have k7 : ∀ b, b ≠ D → b ≠ C → h7.get? b = s₁.heap.get? b := fun b b1 b2 => (hs7.2 b b1).trans (hs6.2 b b2)
        have hC7 : h7.Ns C _ := hn6.sameBut hs7 (Ne.symm hDC)
        have hsz1 : g < s₁.gens.size := by
          have q : (s₁.setGen g gs').gens.size = s₁.gens.size := setGen_size _ _ _
          have hsz' : g + 1 ≤ (s₁.setGen g gs').gens.size := hsz
          omega
        have hfin := hk ({ s₁.setGen g gs' with heap := h7, toks := s₁.toks + 1 }.setGen g .running) ⟨rfl, allBare_setGen (s := { s₁.setGen g gs' with heap := h7, toks := s₁.toks + 1 }) (allBare_setGen hb1 hbare) rfl, fun b o hb e => ?_, nocell ho7 hC7⟩ ⟨⟨_, _, ho7, ?_⟩, _, hC7⟩
        · cases n with
          | zero => exact False.elim hfin
          | succ n =>
            refine ⟨n, Nat.lt_succ_self n, ?_, ?_, gs', setGen_at hsz1, hfin⟩
            · obtain ⟨o, nm, qn, ho, r⟩ := hg1
              exact ⟨o, nm, qn, (k7 a haD haC).trans ho, r⟩
            · obtain ⟨mc, hns, hnn⟩ := hl1
              exact ⟨mc, hns.at' fun o e => (k7 cStatics hSD hSC).trans e, hnn⟩
        · have hb' : b ≠ D ∧ b ≠ C := ⟨fun z => hb (by rw [z]; exact List.mem_cons_self), fun z => hb (by rw [z]; exact List.mem_cons_of_mem _ (List.mem_singleton.mpr rfl))⟩
          exact (k7 b hb'.1 hb'.2).trans e
        · rw [Array.toList_push]
          exact hacc.append (.cons rx .nil)
      · intro hsz
        obtain ⟨H', ys, os1, hb1, un, hok, hSn, ⟨⟨acc, c, hS1, hv⟩, m, hm1⟩, hle, hQ⟩ := hp
        have nD := hSn D List.mem_cons_self
        have nC := hSn C (List.mem_cons_of_mem _ (List.mem_singleton.mpr rfl))
        have I7 : Inv X pins σ (upd H' D (.lst ys)) { s₁.setGen g .finished with heap := h' } := I1.drained hscD hle (hk _ _ hS1) hv .nil os1 (allBare_setGen hb1 rfl) (un.trans (Un.kept hk)) (hok.kept hk) nD
        refine hRR D C _ m (upd H' D (.lst ys)) I7 (hQ D nD) (hm1.keeps hk) (I1.fpOk ?_ ?_)
        · rw [hCD]; exact Nat.le_succ_of_le hscD
        · rw [upd_ne (Ne.symm hDC)]; exact nC
      · obtain ⟨⟨_, _, _, _, _, _, _, _, _, _, _, _, z⟩, _⟩ := he
        exact z.elim
    · refine ⟨hg.keeps k4, hl.keeps k4, .fresh c0, by rw [g4]; exact hgs, rfl, ?_⟩
      refine wake X.A.in1 (conL D C) _ roomI I1.ok.frames (fun b hb => ?_) k4 (nocell hD4 hC4) ⟨⟨_, _, hD4, .nil⟩, _, hC4⟩ (o4.trans hos) (allBare_setGen (s := s4) (by rw [g4]; exact hb) rfl)
      rcases List.mem_cons.mp hb with z | z
      · rw [z, hD]; exact Nat.le_refl _
      · rw [List.mem_singleton.mp z, hD, hCD]; exact Nat.le_succ _
  exact codeAny_compStart_list loop (wpAny_pyIter_gen (hg.keeps k4) loop)
end
end Gw

set_option Elab.async false
set_option linter.all false
set_option maxRecDepth 100000
set_option maxHeartbeats 4000000
/-! [x for x in g(..)]: the expression, the statement y = [..], their trees (P.listG, as of list(g(..))) -/
namespace Gw
open PySem PySem.Spec PyProof.Rows GenW L2
section
variable {X : Cx} {k : Nat}
theorem pe_lcg {iter : Expr} {y : Str} {p1 p2 pos : Pos} {scope : Scope} {own : List (Str × Nat)} {tg : TGen} (hi : PGenC X k iter tg) (hr : Room (k + 1) X.A) (ok : BlkOk X.N X.env.scope scope own)
    (hy : scope.names.lookup y = some .local := by rfl) (hdb : (y == ("__debug__" : Str)) = false := by decide) (hs : ∀ x, foldedSetIterable iter X.env x = pure x := by intro _; rfl) :
    PE X (.ListComp (.Name y p1) [⟨.Name y p2, iter, [], 0⟩] scope pos) (tListG tg) := by
  refine ⟨fun pins s σ H Q I h => ?_⟩
  rw [eval_ListComp]
  refine lcg_core I hi hr ok hy hdb hs h fun D C s' m H' I' q hn f => ⟨m, hn, fun h'' sb => ?_⟩
  obtain ⟨f0, f1, f2, f3, f4, f5⟩ := f
  exact ⟨.ref D, H', I'.turned (t' := s'.toks) (fun b o hb e => (sb.2 b hb).trans e) f0 f1 f3 f4 f5, rfl, q⟩
theorem ps_setLcg {i : Nat} {z : Str} {pz : Pos} {iter : Expr} {y : Str} {p1 p2 pos spos : Pos} {scope : Scope} {own : List (Str × Nat)} {tg : TGen} (hN : X.N.Nodup) (hz : X.N[i]? = some z) (hzl : X.env.scope.names.lookup z = some .local)
    (hsw : swapsWith (.ListComp (.Name y p1) [⟨.Name y p2, iter, [], 0⟩] scope pos) (some (.Name z pz)) spos.line X.env = pure true) (hi : PGenC X k iter tg) (hr : Room (k + 1) X.A) (ok : BlkOk X.N X.env.scope scope own)
    (hy : scope.names.lookup y = some .local := by rfl) (hdb : (y == ("__debug__" : Str)) = false := by decide) (hs : ∀ x, foldedSetIterable iter X.env x = pure x := by intro _; rfl) :
    PS X (.Assign [.Name z pz] (.ListComp (.Name y p1) [⟨.Name y p2, iter, [], 0⟩] scope pos) spos) (tAsg (tListG tg) (gName i)) := by
  refine ⟨fun pins s σ H D I h => ?_⟩
  rw [exec_Assign_Name_used _ _ _ _ hsw]
  refine wpAny_bind (wpAny_standAt (wpAny_bind ?_))
  show wpAny _ X.A (do let _ ← comprehension (.ListComp (.Name y p1) [⟨.Name y p2, iter, [], 0⟩] scope pos) scope X.env (firstIterPos [⟨.Name y p2, iter, [], 0⟩] pos) (newList []) false (eval iter X.env) (some (assign (.Name z pz) X.env))) _ _ s
  have h : tListG tg σ H (fun x H1 => gName i x σ H1 D.nx) := h
  refine wpAny_bind (thn (lcg_core (Qf := fun _ s' => SP X pins D .next s') I hi hr ok hy hdb hs h fun L C s' m H' I' q hn f => ?_) fun _ s' hq => wpAny_pure (wpAny_pure hq))
  show wpAny _ _ (assign (.Name z pz) X.env (.ref L)) _ _ _
  refine wpAny_assign_Name (store_ok2 (v := V.ref L) I' hN hz (.inl hzl) rfl (fun s2 I2 ⟨a, sb, ha⟩ => ?_) (.inr hzl))
  obtain ⟨f0, f1, f2, f3, f4, f5⟩ := f
  have haC : C ≠ a := by
    rcases ha with z | z
    · rw [z]; exact f1
    · exact fun e => f4 _ a z e.symm
  refine ⟨m, hn.sameBut sb haC, fun h3 sb3 => ?_⟩
  exact ⟨_, H', I2.turned (t' := s2.toks) (fun b o hb e => (sb3.2 b hb).trans e) f0 f1 f3 f4 f5, q⟩
end
end Gw
namespace Py
open PySem L2 PySem.Spec PyProof.Rows Evl
section
variable {cl : Cl} {X : Cx} {d k n : Nat} {W : WX} {e : Expr} {es : List Expr} {a : P.Ax} {x y z : Str} {f : Nat → List T → Res (List T)} {p p1 p2 p3 pz pos pos' spos : Pos} {scope : Scope} {own : List (Str × Nat)} {t : TA}
theorem se_listG {E : XK} (c2 : SA ⟨X.K, cl⟩ d W t a) (hn : ∀ env xs, a env = .ok xs → xs.length = n) : SE ⟨X.K, cl⟩ d W (tListG (tCallG (spG ⟨X.K, cl⟩ n f) [] E t)) (P.listG (f (d + 1)) a) := by
  refine fun A env σ F0 H Q R ex o => ?_
  cases z : a env with
  | stuck =>
    have o' : Out _ A F0 H Q (WE W σ) ((a env).bind fun xs => lstG (f (d + 1) xs)) := o
    rw [z] at o'
    exact o'.elim
  | er e =>
    have o' : Out _ A F0 H Q (WE W σ) ((a env).bind fun xs => lstG (f (d + 1) xs)) := o
    refine c2 A env σ F0 H _ R ex ?_
    rw [z] at o' ⊢
    exact o'
  | ok xs =>
    have hlen := hn env xs z
    refine c2 A env σ F0 H _ R ex ?_
    have o' : Out _ A F0 H Q (WE W σ) ((a env).bind fun xs => lstG (f (d + 1) xs)) := o
    rw [z, Res.bind_ok] at o'
    rw [z]
    intro vs F1 H1 g1 rs
    rw [List.append_nil]
    refine ⟨by rw [rs.length, hlen], d + 1, A, F1, xs, R.ok.mono g1.ex, fun g b z => Nat.lt_succ_of_le (R.dep g b z), g1.sub, rs, ?_⟩
    have o1 := Outg.step g1 o'
    cases z2 : f (d + 1) xs with
    | stuck => rw [z2] at o1; exact o1.elim
    | er e => rw [z2] at o1; exact o1.elim
    | ok ys =>
      rw [z2] at o1
      intro us F2 H2 hu g2
      exact fun q hq => Out.lst (Outg.step g2 o1) ((R.ok.mono g1.ex).mono g2.ex) g2.sub (reps_fvs hu) q hq
theorem de_lcG (D : GokC cl X.prog X.w X.K X.mg X.base x k n f) (hr : Room (k + 1) X.A) (ok : BlkOk X.N X.env.scope scope own) (ha : DA cl X d W (e :: es) a) (hn : ∀ env xs, a env = .ok xs → xs.length = n) (hg : Gl X x := by rfl) (hdb : (x == ("__debug__" : Str)) = false := by decide)
    (he : starEach (e :: es) X.env = (false, eval e X.env) :: starEach es X.env := by rfl) (hpl : (backTo pos' (starEach es X.env)).any (·.1) = false := by rfl)
    (hy : scope.names.lookup y = some .local := by rfl) (hdy : (y == ("__debug__" : Str)) = false := by decide) (hs : ∀ u, foldedSetIterable (.Call (.Name x p1) (e :: es) [] pos') X.env u = pure u := by intro _; rfl) :
    DE cl X d W (.ListComp (.Name y p2) [⟨.Name y p3, .Call (.Name x p1) (e :: es) [] pos', [], 0⟩] scope pos) (P.listG (f (d + 1)) a) := by
  obtain ⟨fa, fd, ps, F, hb, hk, hm⟩ := D
  obtain ⟨t, c1, c2⟩ := ha
  exact ⟨_, Gw.pe_lcg (Gw.pgenC_call (dvs := []) (ds := []) F (hr.mono (by omega)) hg hm hk hb .nil c1 hdb he hpl) hr ok hy hdy hs, se_listG c2 hn⟩
theorem ds_asgLcG {i : Nat} (hN : X.N.Nodup) (D : GokC cl X.prog X.w X.K X.mg X.base x k n f) (hr : Room (k + 1) X.A) (ok : BlkOk X.N X.env.scope scope own) (ha : DA cl X d W (e :: es) a) (hn : ∀ env xs, a env = .ok xs → xs.length = n)
    (hsw : swapsWith (.ListComp (.Name y p2) [⟨.Name y p3, .Call (.Name x p1) (e :: es) [] pos', [], 0⟩] scope pos) (some (.Name z pz)) spos.line X.env = pure true)
    (hg : Gl X x := by rfl) (hdb : (x == ("__debug__" : Str)) = false := by decide)
    (he : starEach (e :: es) X.env = (false, eval e X.env) :: starEach es X.env := by rfl) (hpl : (backTo pos' (starEach es X.env)).any (·.1) = false := by rfl)
    (hz : X.N[i]? = some z := by rfl) (hzl : X.env.scope.names.lookup z = some .local := by rfl)
    (hy : scope.names.lookup y = some .local := by rfl) (hdy : (y == ("__debug__" : Str)) = false := by decide) (hs : ∀ u, foldedSetIterable (.Call (.Name x p1) (e :: es) [] pos') X.env u = pure u := by intro _; rfl)
    (hp : i = 0 → cl.pin = none := by first | (intro _; assumption) | (intro h; cases h)) :
    DS cl X d W (.Assign [.Name z pz] (.ListComp (.Name y p2) [⟨.Name y p3, .Call (.Name x p1) (e :: es) [] pos', [], 0⟩] scope pos) spos) (S.asg i (P.listG (f (d + 1)) a)) := by
  obtain ⟨fa, fd, ps, F, hb, hk, hm⟩ := D
  obtain ⟨t, c1, c2⟩ := ha
  exact ⟨_, Gw.ps_setLcg hN hz hzl hsw (Gw.pgenC_call (dvs := []) (ds := []) F (hr.mono (by omega)) hg hm hk hb .nil c1 hdb he hpl) hr ok hy hdy hs, ss_asg (se_listG c2 hn) hp⟩
end
end Py

set_option Elab.async false
set_option linter.all false
set_option maxRecDepth 100000
set_option maxHeartbeats 4000000
namespace Gw
open PySem PySem.Spec PyProof.Rows GenW L2
/-! ### for in a generator's body -/
section
variable {M : Model} {A : Around} {R : GenEnd} {Y : Protocol} {n : Nat} {s₀ : Shared} {c : Code} {fs : List Frame} {s : Shared} {env : Env}
  {K : Flow → Sem PySem.Fin} {H : Value → Sem PySem.Fin} {gd : Bool → Bool} {lv : List Value → List Value}
theorem seg_For {target iter : Expr} {body orelse : List Stmt} {pos : Pos}
    (h : wpAny M (A.over c fs) (eval iter env) (fun x s₁ => wpAny M (A.over c fs) (pyIter x) (fun it s₂ => ∀ p (gd' : Bool → Bool) (lv' : List Value → List Value), gd' = gd → 
      Seg M A R Y n s₀ (.forLoop target it body orelse env) (M.den (.forLoop target it body orelse env))
      (.ret (fun r => ((match r with | .ok f => (.pure f : Sem Flow) | .error e => .raise e).onRaise fun (x : Value) => do
        if (← field x 1) == Value.none then unsupported "frame.own-activation:exception-without-traceback"
        setFlight x env.frame).wrap K H gd lv) none (gd false) (lv []) c p [] :: fs) s₂) (fun x s' => Seg M A R Y n s₀ c (H x) fs s') s₁) (fun x s' => Seg M A R Y n s₀ c (H x) fs s') s)
    (hs : ∀ x, foldedSetIterable iter env x = pure x) :
    Seg M A R Y n s₀ c ((exec (.For target iter body orelse pos) env).wrap K H gd lv) fs s := by
  rw [exec_For]
  refine seg_at ?_
  show Seg M A R Y n s₀ c ((eval iter env >>= fun x => foldedSetIterable iter env x >>= fun x => standAt iter.pos >>= fun _ => holding [x] (pyIter x) >>= fun it => runOwn (.forLoop target it body orelse env) env).wrap K H gd lv) fs s
  rw [Sem.bind_eq_wrap', Sem.wrap_wrap]
  refine seg_wrap (wpAny_mono h (fun x s₁ h₁ => ?_) fun _ _ x => x)
  rw [hs x]
  refine seg_at ?_
  show Seg M A R Y n s₀ c ((holding [x] (pyIter x) >>= fun it => runOwn (.forLoop target it body orelse env) env).wrap K H gd lv) fs s₁
  rw [Sem.bind_eq_wrap', Sem.wrap_wrap]
  refine seg_wrap (wpAny_holding (wpAny_mono h₁ (fun it s₂ h₂ => ?_) fun _ _ x => x))
  exact seg_call fun p => h₂ p gd lv rfl
end
section
variable {prog : Program} {w : World} {A : Around} {R : GenEnd} {Y : Protocol} {n : Nat} {s₀ : Shared} {fs : List Frame} {s : Shared} {env : Env}
theorem seg_forLoop {target : Expr} {it : Value} {body orelse : List Stmt}
    (h : wpAny (model prog w) (A.over (.forLoop target it body orelse env) fs) (pyNext it) (fun r s' => match r with
        | some v => wpAny (model prog w) (A.over (.forLoop target it body orelse env) fs) (letOwnedTupleGo target it v) (fun _ s1 => wpAny (model prog w) (A.over (.forLoop target it body orelse env) fs) (assign target env v) (fun _ s2 =>
          Seg (model prog w) A R Y n s₀ (.forLoop target it body orelse env) ((execs body env).wrap (fun f => match f with
            | .next | .cont => .pure (.again (.forLoop target it body orelse env))
            | .brk => .pure (.done .next)
            | .ret v => .pure (.done (.ret v))) (fun e => (do noteFrame e env; theTreesLotGoes e : Sem Unit).wrap (fun _ => .raise e) .raise id id) id id) fs s2)
          (fun x s' => Seg (model prog w) A R Y n s₀ (.forLoop target it body orelse env) ((do noteFrame x env; theTreesLotGoes x : Sem Unit).wrap (fun _ => .raise x) .raise id id) fs s') s1)
          (fun x s' => Seg (model prog w) A R Y n s₀ (.forLoop target it body orelse env) ((do noteFrame x env; theTreesLotGoes x : Sem Unit).wrap (fun _ => .raise x) .raise id id) fs s') s'
        | none => Seg (model prog w) A R Y n s₀ (.forLoop target it body orelse env) (.pure (.again (.block orelse env))) fs s')
      (fun x s' => Seg (model prog w) A R Y n s₀ (.forLoop target it body orelse env) ((do noteFrame x env; theTreesLotGoes x : Sem Unit).wrap (fun _ => .raise x) .raise id id) fs s') s) :
    Seg (model prog w) A R Y n s₀ (.forLoop target it body orelse env) ((model prog w).den (.forLoop target it body orelse env)) fs s := by
  show Seg _ A R Y n s₀ _ ((forTurn target it body orelse env).onRaise (fun x => do noteFrame x env; theTreesLotGoes x)) fs s
  unfold forTurn
  rw [Sem.onRaise_eq_wrap, Sem.bind_eq_wrap', Sem.wrap_wrap]
  have er : ∀ (x : Value) (s' : Shared), Seg (model prog w) A R Y n s₀ (.forLoop target it body orelse env) ((do noteFrame x env; theTreesLotGoes x : Sem Unit).wrap (fun _ => .raise x) .raise id id) fs s' →
      Seg (model prog w) A R Y n s₀ (.forLoop target it body orelse env) ((do noteFrame x env; theTreesLotGoes x : Sem Unit) >>= fun _ => (.raise x : Sem PySem.Fin)) fs s' := fun x s' hx => by
    show Seg _ A R Y n s₀ _ ((do noteFrame x env; theTreesLotGoes x : Sem Unit).bind fun _ => .raise x) fs s'
    rw [Sem.bind_eq_wrap]; exact hx
  refine seg_wrap (wpAny_standAt ?_)
  rw [Sem.bind_eq_wrap', Sem.wrap_wrap]
  refine seg_wrap (wpAny_onRaise (wpAny_mono h (fun r s' hr => ?_) fun x s' hx => wpAny_standAt (er x s' hx)))
  cases r with
  | none => exact hr
  | some v =>
    show Seg (model prog w) A R Y n s₀ _ (Sem.wrap _ _ _ _ (letOwnedTupleGo target it v >>= fun _ => assign target env v >>= fun _ => execs body env >>= fun f => match f with
      | .next | .cont => again (.forLoop target it body orelse env)
      | .brk => pure (.done .next)
      | .ret v => pure (.done (.ret v)))) fs s'
    rw [Sem.bind_eq_wrap', Sem.wrap_wrap]
    refine seg_wrap (wpAny_mono hr (fun _ s1 h1 => ?_) fun x s' hx => er x s' hx)
    rw [Sem.bind_eq_wrap', Sem.wrap_wrap]
    refine seg_wrap (wpAny_mono h1 (fun _ s2 h2 => ?_) fun x s' hx => er x s' hx)
    rw [Sem.bind_eq_wrap', Sem.wrap_wrap]
    rw [Sem.wrap_congr (execs body env) _ _ (K' := fun f => match f with
            | .next | .cont => .pure (.again (.forLoop target it body orelse env))
            | .brk => .pure (.done .next)
            | .ret v => .pure (.done (.ret v))) (H' := (fun e => (do noteFrame e env; theTreesLotGoes e : Sem Unit).wrap (fun _ => .raise e) .raise id id))
        (fun f => by cases f <;> rfl)
        (fun e => by first | exact Sem.bind_eq_wrap _ _ | (show (do noteFrame e env; theTreesLotGoes e : Sem Unit).bind (fun _ => .raise e) = _; rw [Sem.bind_eq_wrap]))]
    exact h2
end
end Gw

set_option Elab.async false
set_option linter.all false
set_option maxRecDepth 100000
set_option maxHeartbeats 4000000
namespace Gw
open PySem PySem.Spec PyProof.Rows GenW L2
variable {X : Cx}
def tGFor (wi : TI) (g : TG) (tb : TGn) : TGn := fun D ys σ H => wi σ H fun J H1 => ∃ W : Nat → Nat → List V → L2.St → Hp → Prop, (∃ m, W 0 m ys σ H1) ∧ ∀ i m ys σ H, W i m ys σ H →
  (J.stop i H ∧ D.nx ys σ H) ∨ (J.go i H ∧ ∃ N : List V → L2.St → Hp → Prop, (∀ ys' σ' H', N ys' σ' H' → ∃ m', m' < m ∧ W (i + 1) m' ys' σ' H') ∧ ∀ x H', J.yld i H x H' → g x σ H' fun σ2 H2 => tb { D with nx := N, ct := N, bk := D.nx } ys σ2 H2)
theorem Run.pinned {C : Con} {ip : List (Addr × Obj)} {ys : List V} {σ : L2.St} {H : Hp} {s : Shared} {fp : List Addr} {os : List (Addr × Obj)} (e : os.map (·.1) = C.Ss) (I : Inv X (os ++ ip) σ H s) (hc : C.Cs ys s.heap) (st : ∀ b ∈ fp, FpOk X (os ++ ip) H b) (ob : ∀ b ∈ fp, ∃ o, s.heap.get? b = some o ∧ ∀ v, o.data ≠ .cell v) :
    Run X C (ip ++ pinsAt fp s.heap) ys σ H s := by
  refine ⟨os, e, ?_, hc⟩
  rw [← List.append_assoc]
  exact I.pinned st ob
theorem Run.unpinned {C : Con} {ip pl : List (Addr × Obj)} {ys : List V} {σ : L2.St} {H : Hp} {s : Shared} (h : Run X C (ip ++ pl) ys σ H s) : Run X C ip ys σ H s ∧ ∀ p ∈ pl, s.heap.get? p.1 = some p.2 ∧ H p.1 = none := by
  obtain ⟨os, e, I, hc⟩ := h
  rw [← List.append_assoc] at I
  exact ⟨⟨os, e, I.unpinned, hc⟩, fun p hp => let z := I.pin p (List.mem_append_right _ (List.mem_append_right _ hp)); ⟨z.1, z.2.1⟩⟩
theorem one_for {tg iter : Expr} {body : List Stmt} {pos : Pos} {wi : TI} {g : TG} {tb : TGn} (hp : PassesOwn (model X.prog X.w) X.A X.env X.xe) (hcm : X.calm = true) (hi : PI X tg iter wi) (hg : PG X tg g) (hb : All X body tb)
    (hs : ∀ x, foldedSetIterable iter X.env x = pure x := by intro _; rfl) : One X (.For tg iter body [] pos) (tGFor wi g tb) := by
  refine ⟨fun A C ip R n ys s₀ c fs K J gd lv s σ H D gs hn k hI ht => ?_⟩
  obtain ⟨os, e0, I, hcs⟩ := hI
  refine seg_For ?_ hs
  rw [gs.over]
  refine wpAny_mono (hi.run _ s σ H _ I ht) (fun v s1 h1 => wpAny_mono h1 (fun itv s2 h2 => ?_) fun x s' hx => k.exc n s₀ x s' hx) fun x s' hx => k.exc n s₀ x s' hx
  obtain ⟨it, fp, tn, Jt, H2, rfl, I2, T, st2, f2, W, ⟨m0, w0⟩, turn⟩ := h2
  intro p gd' lv' _
  have gl := fun (kk : Result → Sem PySem.Fin) => gs.loop (k := kk) (c' := .forLoop tg (.ref it) body [] X.env) (l := lv []) (kp := []) (p := p) rfl rfl
  have stat : ∀ {os' : List (Addr × Obj)} {H' : Hp}, os'.map (·.1) = C.Ss → (∀ b ∈ fp, H' b = none) → ∀ b ∈ fp, FpOk X (os' ++ ip) H' b := fun {os' H'} e' hn b hb => by
    obtain ⟨_, f1, f3, f4, f5, f6⟩ := f2 b hb
    refine ⟨hn b hb, f1, f3, f4, f5, fun q hq => ?_⟩
    rcases List.mem_append.mp hq with z | z
    · exact f6 q (List.mem_append_left _ z)
    · rcases List.mem_append.mp z with z | z
      · have m1 : q.1 ∈ os.map (·.1) := by rw [e0, ← e']; exact List.mem_map.mpr ⟨q, z, rfl⟩
        obtain ⟨r, hr, er⟩ := List.mem_map.mp m1
        rw [← er]
        exact f6 r (List.mem_append_right _ (List.mem_append_left _ hr))
      · exact f6 q (List.mem_append_right _ (List.mem_append_right _ z))
  have fpS : ∀ b ∈ fp, b ∉ C.Ss := fun b hb hm => by
    rw [← e0] at hm
    obtain ⟨r, hr, er⟩ := List.mem_map.mp hm
    exact (f2 b hb).2.2.2.2.2 r (List.mem_append_right _ (List.mem_append_left _ hr)) er
  have loop : ∀ (m n i : Nat) (ys : List V) (s₀ s : Shared) (σ : L2.St) (H : Hp), n + ys.length = sizeLine → W i m ys σ H → Run X C ip ys σ H s → tn i s.heap → (∀ b ∈ fp, H b = none) →
      Seg (model X.prog X.w) A R (Yl X C) n s₀ (.forLoop tg (.ref it) body [] X.env) ((model X.prog X.w).den (.forLoop tg (.ref it) body [] X.env))
        (.ret (fun r => ((match r with | .ok f => (.pure f : Sem Flow) | .error e => .raise e).onRaise (cameBack X.env)).wrap K J gd lv) none (gd false) (lv []) c p [] :: fs) s := by
    intro m
    induction m using Nat.strongRecOn with
    | ind m ih =>
      intro n i ys s₀ s σ H hn w hI st fr
      have ee : ∀ (n : Nat) (s₀ : Shared) (x : Value) (s' : Shared), X.xe x s' → Seg (model X.prog X.w) A R (Yl X C) n s₀ (.forLoop tg (.ref it) body [] X.env)
          ((do noteFrame x X.env; theTreesLotGoes x : Sem Unit).wrap (fun _ => .raise x) .raise id id)
          (.ret (fun r => ((match r with | .ok f => (.pure f : Sem Flow) | .error e => .raise e).onRaise (cameBack X.env)).wrap K J gd lv) none (gd false) (lv []) c p [] :: fs) s' := fun n s₀ x s' hx => by
        refine seg_wrap ?_
        rw [(gl _).over]
        refine wpAny_bind (wpAny_mono (hp x s' hx) (fun _ s'' hcb => wpAny_theTreesLotGoes ?_) fun y s'' hcb => ?_)
        · exact seg_leaf (.error x) (back_seg gs k hcb)
        · exact seg_leaf (.error y) (back_seg gs k hcb)
      refine seg_forLoop ?_
      rw [(gl _).over]
      obtain ⟨os', e', I3, hc3⟩ := hI
      rcases turn i m ys σ H w with ⟨stop, qn⟩ | ⟨go, N, hN, step⟩
      · refine wpAny_mono (T.done X rfl rfl rfl hcm i _ s σ H X.xe I3 (stat e' fr) st stop) (fun r s4 ⟨hr, I4⟩ => ?_) fun x s' hx => ee n s₀ x s' hx
        subst hr
        refine seg_again rfl ?_
        exact seg_leaf (.ok .next) (k.ok n ys s₀ s4 .next hn ⟨σ, H, .after e' I3 hc3 I4, qn⟩)
      · refine wpAny_mono (T.item X rfl rfl rfl hcm i _ s σ H X.xe I3 (stat e' fr) st go) (fun r s4 ⟨u, hr, h4⟩ => ?_) fun x s' hx => ee n s₀ x s' hx
        subst hr
        refine wpAny_mono h4 (fun _ s5 ⟨x, H5, I5, r5, y5, st5, fr5⟩ => ?_) fun x s' hx => ee n s₀ x s' hx
        have c5 : C.Cs ys s5.heap := (Run.after e' I3 hc3 I5).choose_spec.2.2
        have I5' := I5.pinned (stat e' fr5) (T.obj _ _ st5)
        refine wpAny_mono (hg.run _ s5 σ H5 x u _ I5' r5 (step x H5 y5)) (fun _ s6 ⟨σ6, H6, I6, q6⟩ => ?_) fun x s' hx => ee n s₀ x s' hx
        have R5 : Run X C (ip ++ pinsAt fp s5.heap) ys σ H5 s5 := .pinned e' I5 c5 (stat e' fr5) (T.obj _ _ st5)
        have R6 : Run X C (ip ++ pinsAt fp s5.heap) ys σ6 H6 s6 := by
          refine .after e' (by rw [← List.append_assoc]; exact I5') c5 (by rw [← List.append_assoc]; exact I6)
        have hipp : ∀ q ∈ ip ++ pinsAt fp s5.heap, q.1 ∉ C.Ss := fun q hq => by
          rcases List.mem_append.mp hq with z | z
          · exact gs.ip q z
          · exact fpS _ (of_pinsAt z).1
        have gi : Spot X C (ip ++ pinsAt fp s5.heap) A (.forLoop tg (.ref it) body [] X.env) (.ret (fun r => ((match r with | .ok f => (.pure f : Sem Flow) | .error e => .raise e).onRaise (cameBack X.env)).wrap K J gd lv) none (gd false) (lv []) c p [] :: fs) id :=
          { gl _ with ip := hipp }
        refine hb.run A C (ip ++ pinsAt fp s5.heap) R n ys s₀ _ _ _ _ id id s6 σ6 H6 { D with nx := N, ct := N, bk := D.nx } gi hn ⟨fun n' ys' s₀' s7 f hn' hs => ?_, fun n' s₀' x s7 hx => ee n' s₀' x s7 hx⟩ R6 q6
        have again : ∀ {σ7 : L2.St} {H7 : Hp}, Run X C (ip ++ pinsAt fp s5.heap) ys' σ7 H7 s7 → N ys' σ7 H7 → Seg (model X.prog X.w) A R (Yl X C) n' s₀' (.forLoop tg (.ref it) body [] X.env) (.pure (.again (.forLoop tg (.ref it) body [] X.env)))
            (.ret (fun r => ((match r with | .ok f => (.pure f : Sem Flow) | .error e => .raise e).onRaise (cameBack X.env)).wrap K J gd lv) none (gd false) (lv []) c p [] :: fs) s7 := fun {σ7 H7} I7 n7 => by
          obtain ⟨m', hm, w7⟩ := hN ys' σ7 H7 n7
          obtain ⟨J7, P7⟩ := I7.unpinned
          refine seg_again rfl (ih m' hm n' (i + 1) ys' s₀' s7 σ7 H7 hn' w7 J7 (T.keep _ _ _ st5 fun b hb o e => (P7 (b, o) (mem_pinsAt hb e)).1) fun b hb => ?_)
          obtain ⟨o, e, d⟩ := T.obj _ _ st5 b hb
          exact (P7 (b, o) (mem_pinsAt hb e)).2
        cases f with
        | next => obtain ⟨σ7, H7, I7, n7⟩ := hs; exact again I7 n7
        | cont => obtain ⟨σ7, H7, I7, n7⟩ := hs; exact again I7 n7
        | brk =>
          obtain ⟨σ7, H7, I7, q7⟩ := hs
          exact seg_leaf (.ok .next) (k.ok n' ys' s₀' s7 .next hn' ⟨σ7, H7, I7.unpinned.1, q7⟩)
        | ret v =>
          obtain ⟨x7, σ7, H7, I7, r7, q7⟩ := hs
          exact seg_leaf (.ok (.ret v)) (k.ok n' ys' s₀' s7 (.ret v) hn' ⟨x7, σ7, H7, I7.unpinned.1, r7, q7⟩)
  exact loop m0 n 0 ys s₀ s2 σ H2 hn w0 (.after e0 I hcs I2) st2 fun b hb => (f2 b hb).1
end Gw

set_option Elab.async false
set_option linter.all false
set_option maxRecDepth 100000
set_option maxHeartbeats 4000000
/-! for over a range in a generator's body: trees and derivations -/
namespace Py
open PySem L2 PySem.Spec PyProof.Rows Evl
namespace Yl
def turns (tg : T → Fv → Option Fv) (g : Gx) : List T → Gx
  | [] => fun ys env => .nx ys env
  | t :: ts => fun ys env => match tg t env with
    | some env1 => (match g ys env1 with
      | .nx ys env => turns tg g ts ys env
      | .ct ys env => turns tg g ts ys env
      | .br ys env => .nx ys env
      | r => r)
    | none => .stuck
def forX (tg : T → Fv → Option Fv) (pi : Fv → Res (List T)) (g : Gx) : Gx := fun ys env => match pi env with
  | .ok ts => turns tg g ts ys env
  | _ => .stuck
end Yl
section
variable {G : Ge} {d : Nat} {W : WX} {t : TGn} {g : Gx} {wi : TI} {tgm : TG} {tg : T → Fv → Option Fv} {pi : Fv → Res (List T)}
theorem ssg_forX (hi : SIF G d W wi pi) (hg : SG G d tgm tg) (hb : SSG G d t g) : SSG G d (Gw.tGFor wi tgm t) (Yl.forX tg pi g) := fun A0 F0 H0 A env σ F H D ys us R hu o => by
  refine hi A env σ _ H _ R.re R.subP ?_
  have o' : OutGn G d A0 F0 H0 D (match pi env with
    | .ok ts => Yl.turns tg g ts ys env
    | _ => .stuck) := o
  cases z : pi env with
  | er e => rw [z] at o'; exact o'.elim
  | stuck => rw [z] at o'; exact o'.elim
  | ok ts =>
    rw [z] at o'
    intro J F1 H1 gr hJ
    have R1 := R.grow (R.low gr)
    refine ⟨fun i m us σ H => m = ts.length - i ∧ i ≤ ts.length ∧ ∃ A env F ys, T.fvs ys = some us ∧ Rel G d A0 F0 H0 A env σ F H ∧ OutGn G d A0 F0 H0 D (Yl.turns tg g (ts.drop i) ys env), ⟨ts.length, by simp, Nat.zero_le _, A, env, _, ys, hu, R1, o'⟩, ?_⟩
    rintro i m us σ H ⟨rfl, hi, A, env, F, ys, hu, R, o⟩
    by_cases hlt : i < ts.length
    · refine .inr ⟨hJ.go i H hlt, fun us' σ' H' => i + 1 ≤ ts.length ∧ ∃ A env F ys, T.fvs ys = some us' ∧ Rel G d A0 F0 H0 A env σ' F H' ∧ OutGn G d A0 F0 H0 D (Yl.turns tg g (ts.drop (i + 1)) ys env), fun us' σ' H' p' => ⟨ts.length - (i + 1), by omega, rfl, p'⟩, fun x H' y => ?_⟩
      have hx : ts[i]? = some ts[i] := List.getElem?_eq_getElem hlt
      obtain ⟨e1, rx⟩ := hJ.yld i H x H' _ hx y
      subst e1
      rw [List.drop_eq_getElem_cons hlt] at o
      have o' : OutGn G d A0 F0 H0 D (match tg ts[i] env with
        | some env1 => (match g ys env1 with
          | .nx ys env => Yl.turns tg g (ts.drop (i + 1)) ys env
          | .ct ys env => Yl.turns tg g (ts.drop (i + 1)) ys env
          | .br ys env => .nx ys env
          | r => r)
        | none => .stuck) := o
      cases z : tg ts[i] env with
      | none => rw [z] at o'; exact o'.elim
      | some env1 =>
        rw [z] at o'
        refine hg A0 F0 H0 A env σ F _ _ x env1 _ R (rx A0 F) z fun A' σ' R' => hb A0 F0 H0 A' env1 σ' F _ _ ys us R' hu ?_
        cases z2 : g ys env1 with
        | nx y1 e1 => simp only [z2] at o'; exact fun us1 A σ F H hu1 R => ⟨hlt, A, e1, F, y1, hu1, R, o'⟩
        | ct y1 e1 => simp only [z2] at o'; exact fun us1 A σ F H hu1 R => ⟨hlt, A, e1, F, y1, hu1, R, o'⟩
        | br y1 e1 => simp only [z2] at o'; exact o'
        | rt y1 => simp only [z2] at o'; exact o'
        | stuck => simp only [z2] at o'; exact o'
    · have e : i = ts.length := by omega
      subst e
      rw [List.drop_eq_nil_of_le (Nat.le_refl _)] at o
      exact .inl ⟨hJ.stop _ H (Nat.le_refl _), o us A σ F H hu R⟩
end
section
variable {cl : Cl} {X : Cx} {d : Nat} {W : WX} {rest : List Stmt} {g : Gx} {tg it : Expr} {pi : Fv → Res (List T)} {tgs : T → Fv → Option Fv} {pos : Pos}
theorem dyo_forX (po : PassesOwn (model X.prog X.w) X.A X.env X.xe) (hi : DIF cl X d W tg it pi) (hg : DG cl X d tg tgs) (hb : DYa cl X d rest g) (hc : X.calm = true := by rfl)
    (hs : ∀ x, foldedSetIterable it X.env x = pure x := by intro _; rfl) : DYo cl X d (.For tg it rest [] pos) (Yl.forX tgs pi g) := by
  obtain ⟨t, a1, a2⟩ := hi
  obtain ⟨t1, b1, b2⟩ := hg
  obtain ⟨t2, c1, c2⟩ := hb
  exact ⟨_, Gw.one_for po hc a1 b1 c1 hs, ssg_forX a2 b2 c2⟩
end
end Py

set_option Elab.async false
set_option linter.all false
set_option maxRecDepth 100000
set_option maxHeartbeats 4000000
namespace Lw
open PySem L2 PySem.Spec PyProof.Rows Evl Py
def top (i : Nat) : Stmt := PySem.Challenge.pw_fullsides_k18_sides.main.body.getD i (.Pass ⟨0, 0, 0, 0⟩)
abbrev cid_TownError : Nat := 0
abbrev cid_BadName : Nat := 1
abbrev cid_BadLot : Nat := 2
abbrev s__law_digits : Stmt := top 13
abbrev s__law_cell : Stmt := top 12
abbrev s_is_whole : Stmt := top 5
abbrev s_is_side_lot : Stmt := top 7
abbrev s_side : Stmt := top 8
abbrev s__law_whole : Stmt := top 11
def tab_BadLot : Nat → Option Bool := fun n => ([(0, false), (1, false), (2, true)] : List (Nat × Bool)).lookup n
def tab_BadName : Nat → Option Bool := fun n => ([(0, false), (1, true), (2, false)] : List (Nat × Bool)).lookup n
def tab_TownError : Nat → Option Bool := fun n => ([(0, true), (1, true), (2, true)] : List (Nat × Bool)).lookup n
def tab_ValueError : Nat → Option Bool := fun n => ([(0, true), (1, true), (2, true)] : List (Nat × Bool)).lookup n
abbrev s__law_refused : Stmt := top 14
abbrev s_all_sides : Stmt := top 9
abbrev s__law_holds : Stmt := top 15
abbrev s_law : Stmt := top 16
def clNames : List Str := ["TownError", "BadName", "BadLot"]
abbrev s_init_BadLot : Stmt := mth (top 3) 0
def fa : List He.Fa := [.glo "_law_digits", .glo "_law_cell", .glo "is_whole", .glo "is_side_lot", .glo "side", .glo "_law_whole", .glo "_law_refused", .glo "all_sides", .glo "_law_holds", .glo "law", .glo "BadLot", .glo "BadName", .glo "TownError", .free "ValueError", .free "bool", .free "int", .free "isinstance", .free "len", .free "range", .free "sorted", .noat "BadLot" "lot"]
def fn : List He.DefD := [⟨("_law_digits", none), "_law_digits", "_law_digits", defArgs s__law_digits, defBody s__law_digits, defScope s__law_digits, [], []⟩, ⟨("_law_cell", none), "_law_cell", "_law_cell", defArgs s__law_cell, defBody s__law_cell, defScope s__law_cell, [], []⟩, ⟨("is_whole", none), "is_whole", "is_whole", defArgs s_is_whole, defBody s_is_whole, defScope s_is_whole, [], []⟩, ⟨("is_side_lot", none), "is_side_lot", "is_side_lot", defArgs s_is_side_lot, defBody s_is_side_lot, defScope s_is_side_lot, [], []⟩, ⟨("side", none), "side", "side", defArgs s_side, defBody s_side, defScope s_side, [], []⟩, ⟨("_law_whole", none), "_law_whole", "_law_whole", defArgs s__law_whole, defBody s__law_whole, defScope s__law_whole, [], []⟩, ⟨("_law_refused", none), "_law_refused", "_law_refused", defArgs s__law_refused, defBody s__law_refused, defScope s__law_refused, [], []⟩, ⟨("all_sides", none), "all_sides", "all_sides", defArgs s_all_sides, defBody s_all_sides, defScope s_all_sides, [], []⟩, ⟨("_law_holds", none), "_law_holds", "_law_holds", defArgs s__law_holds, defBody s__law_holds, defScope s__law_holds, [], []⟩, ⟨("law", none), "law", "law", defArgs s_law, defBody s_law, defScope s_law, [], []⟩, ⟨("BadLot", some "__init__"), "__init__", "BadLot.__init__", defArgs s_init_BadLot, defBody s_init_BadLot, defScope s_init_BadLot, [], []⟩]
def xs : List XF := [excB "BadLot", iniB "BadLot", exmB clNames [(0, false), (1, false), (2, true)] (fun K => .ref (He.ga K "BadLot")), kitsB clNames [(0, false), (1, true), (2, false)] (fun K => .ref (He.ga K "BadName")), kitsB clNames [(0, true), (1, true), (2, true)] (fun K => .ref (He.ga K "TownError")), kitsB clNames [(0, true), (1, true), (2, true)] (fun K => .type "ValueError")]
def ads0 : List PySem.Addr := [3, 6, 4, 24, 44, 63, 72, 79, 86, 93, 100, 107, 114, 121, 126, 133, 0, 23, 43, 62, 71, 78, 85, 92, 99, 106, 113, 120, 125, 132, 22, 25, 41, 42, 60, 61, 66, 67, 68, 69, 70, 73, 74, 75, 76, 77, 80, 81, 82, 83, 84, 87, 88, 89, 90, 91, 94, 95, 96, 97]
def ads1 : List PySem.Addr := [98, 101, 102, 103, 104, 105, 108, 109, 110, 111, 112, 115, 116, 117, 118, 119, 122, 123, 124, 127, 128, 129, 130, 131, 40, 59, 35, 36, 37, 38, 39, 54, 55, 56, 57, 58]
def ads : List PySem.Addr := ads0 ++ ads1
abbrev R : PySem.W.OpenRow := PySem.W.OpenLaw.row PySem.Challenge.rw_fullsides_k18_sides
abbrev hk : PySem.W.Hook := hookL ads fa fn xs
def ob (s : PySem.W.SharedT) : He.AlD := obsL ads fa fn xs (HandSHeadRun.getT s)
theorem ob_eq (s : PySem.W.SharedT) : ob s = hk.obs s.abs := obsL_eq (HandSHeadRun.getT_eq s)
def loose0 : List Str := ["TownError", "BadName", "BadLot", "is_whole", "is_side_lot", "side", "all_sides", "_law_whole", "_law_cell", "_law_digits", "_law_refused", "_law_holds"]
def loose : List Str := loose0
theorem topRun (w : World) : HandSHeadRun.RunEq R (PySem.W.view R.prog [16]) hk ob 4000 loose w := by
  intro os
  kernel_rfl
section
variable {cl : Cl} {Pr : Program} {w : World} {K : PySem.W.Frag} {mg : Str → Option Value} {base : Heap}

/-! ### _law_digits -/
theorem sc__law_digits : FnScope ["cell", "sizes", "found", "rest", "size", "seed", "k", "twice"] ["cell", "sizes"] (defScope s__law_digits) := ⟨rfl, rfl, rfl, by decide +kernel, rfl, by decide +kernel, by decide +kernel⟩
def S__law_digits (d : Nat) : Sx :=
  S.seq (S.new 2 (lfits P.nil))
  (S.seq (S.asg 3 (P.bin T.mod (P.call (fun ts => .of (B.int ts)) (P.cons (P.var d 0) P.nil)) (P.bin T.mul (P.bin T.mul (P.bin T.pow (P.c (.int 10)) (P.c (.int 60))) (P.bin T.pow (P.c (.int 10)) (P.c (.int 60)))) (P.bin T.pow (P.c (.int 10)) (P.c (.int 60))))))
  (S.seq (S.ite (P.tb (P.bin T.ge (P.var d 3) (P.bin T.pow (P.c (.int 10)) (P.c (.int 18)))))
  (S.seq (S.asg 3 (P.bin T.sub (P.var d 3) (P.bin T.pow (P.c (.int 10)) (P.c (.int 18)))))
  (S.seq (S.for_ (S.tName 4) (P.items (P.var d 1))
  (S.seq (S.app 2 (P.bin T.mod (P.call (fun ts => .of (B.int ts)) (P.cons (P.var d 3) P.nil)) (P.var d 4)))
  (S.asg 3 (P.bin T.fdiv (P.call (fun ts => .of (B.int ts)) (P.cons (P.var d 3) P.nil)) (P.var d 4)))))
  (S.frz 2 (S.ret (P.var d 2)))))
  S.skip)
  (S.seq (S.asg 5 (P.bin T.mod (P.call (fun ts => .of (B.int ts)) (P.cons (P.var d 3) P.nil)) (P.c (.int 2147483629))))
  (S.seq (S.forX (S.tName 6) (P.rng1 (P.cons (P.call (fun ts => .of (B.len ts)) (P.cons (P.var d 1) P.nil)) P.nil))
  (S.seq (S.asg 5 (P.bin T.mod (P.call (fun ts => .of (B.int ts)) (P.cons (P.bin T.add (P.bin T.add (P.bin T.mul (P.var d 5) (P.c (.int 48271))) (P.bin T.mul (P.c (.int 974711)) (P.var d 6))) (P.c (.int 12345))) P.nil)) (P.c (.int 2147483647))))
  (S.seq (S.asg 7 (P.bin T.mod (P.call (fun ts => .of (B.int ts)) (P.cons (P.bin T.mul (P.var d 5) (P.bin T.add (P.bin T.fdiv (P.var d 5) (P.c (.int 65537))) (P.c (.int 3)))) P.nil)) (P.c (.int 2147483629))))
  (S.app 2 (P.bin T.mod (P.call (fun ts => .of (B.int ts)) (P.cons (P.bin T.fdiv (P.var d 7) (P.c (.int 19))) P.nil)) (P.bin T.ix (P.var d 1) (P.var d 6)))))))
  (S.frz 2 (S.ret (P.var d 2)))))))
def f__law_digits (d : Nat) (ts : List T) : Res T := run 8 (S__law_digits d) ts
theorem ok__law_digits {fa : Addr} {fd : FuncData} (F : FnP K "_law_digits" s__law_digits fa fd) (hm : mg "_law_digits" = some (.ref fa)) (p0 : cl.pin = none) (g_int : mg "int" = none) (g_len : mg "len" = none) (g_range : mg "range" = none) : Dok cl Pr w K mg base "_law_digits" 1 2 f__law_digits := by
  have hN : (["cell", "sizes", "found", "rest", "size", "seed", "k", "twice"] : List Str).Nodup := sc__law_digits.nd
  refine dok_of (N := ["cell", "sizes", "found", "rest", "size", "seed", "k", "twice"]) (ps := ["cell", "sizes"]) F sc__law_digits rfl (by decide) p0 hm (fun _ _ => rfl) (fun _ _ _ _ _ _ us hl => match us, hl with | [_, _], _ => rfl) (fun d cdv A outer s H E hr => ?_)
  exact (db_cons (ds_new (i := 2) hN (dn_lst da_nil))
  (db_cons (ds_asg (i := 3) hN (de_op opD_mod (de_ty crd_int g_int (by decide +kernel) (da_cons (de_v 0) da_nil)) (de_op opD_mul (de_op opD_mul (de_op opD_pow de_int de_int) (de_op opD_pow de_int de_int)) (de_op opD_pow de_int de_int))))
  (db_cons (ds_if (dt_cmp opD_ge (de_v 3) (de_op opD_pow de_int de_int))
  (db_cons (ds_asg (i := 3) hN (de_op opD_sub (de_v 3) (de_op opD_pow de_int de_int)))
  (db_cons (ds_for po_of (di_seq (de_v 1)) (dg_name (i := 4) hN)
  (db_cons (ds_app (i := 2) (de_op opD_mod (de_ty crd_int g_int (by decide +kernel) (da_cons (de_v 3) da_nil)) (de_v 4)))
  (db_one (ds_asg (i := 3) hN (de_op opD_fdiv (de_ty crd_int g_int (by decide +kernel) (da_cons (de_v 3) da_nil)) (de_v 4))))))
  (db_one (ds_frz 2 (ds_ret (de_v 2))))))
  db_nil)
  (db_cons (ds_asg (i := 5) hN (de_op opD_mod (de_ty crd_int g_int (by decide +kernel) (da_cons (de_v 3) da_nil)) de_int))
  (db_cons (ds_forX po_of (dif_rng1 (da_cons (de_b crd_len g_len (by decide +kernel) (da_cons (de_v 1) da_nil)) da_nil) g_range) (dg_name (i := 6) hN)
  (db_cons (ds_asg (i := 5) hN (de_op opD_mod (de_ty crd_int g_int (by decide +kernel) (da_cons (de_op opD_add (de_op opD_add (de_op opD_mul (de_v 5) de_int) (de_op opD_mul de_int (de_v 6))) de_int) da_nil)) de_int))
  (db_cons (ds_asg (i := 7) hN (de_op opD_mod (de_ty crd_int g_int (by decide +kernel) (da_cons (de_op opD_mul (de_v 5) (de_op opD_add (de_op opD_fdiv (de_v 5) de_int) de_int)) da_nil)) de_int))
  (db_one (ds_app (i := 2) (de_op opD_mod (de_ty crd_int g_int (by decide +kernel) (da_cons (de_op opD_fdiv (de_v 7) de_int) da_nil)) (de_ix (de_v 1) (de_v 6))))))))
  (db_one (ds_frz 2 (ds_ret (de_v 2)))))))))
/-! ### _law_cell -/
theorem sc__law_cell : FnScope ["script", "k", "seed", "cell"] ["script", "k"] (defScope s__law_cell) := ⟨rfl, rfl, rfl, by decide +kernel, rfl, by decide +kernel, by decide +kernel⟩
def S__law_cell (d : Nat) : Sx :=
  S.seq (S.ite (P.tb (P.bin T.lt (P.var d 1) (P.call (fun ts => .of (B.len ts)) (P.cons (P.var d 0) P.nil))))
  (S.ret (P.call (fun ts => .of (B.int ts)) (P.cons (P.bin T.ix (P.var d 0) (P.var d 1)) P.nil)))
  S.skip)
  (S.seq (S.asg 2 (P.c (.int 7)))
  (S.seq (S.for_ (S.tName 3) (P.items (P.var d 0))
  (S.asg 2 (P.bin T.mod (P.call (fun ts => .of (B.int ts)) (P.cons (P.bin T.add (P.bin T.mul (P.var d 2) (P.c (.int 33))) (P.bin T.mod (P.call (fun ts => .of (B.int ts)) (P.cons (P.var d 3) P.nil)) (P.c (.int 999983)))) P.nil)) (P.c (.int 999983)))))
  (S.ret (P.bin T.mod (P.call (fun ts => .of (B.int ts)) (P.cons (P.bin T.mul (P.bin T.mul (P.bin T.add (P.var d 2) (P.c (.int 11))) (P.bin T.add (P.var d 1) (P.c (.int 5)))) (P.c (.int 48271))) P.nil)) (P.c (.int 2147483647))))))
def f__law_cell (d : Nat) (ts : List T) : Res T := run 4 (S__law_cell d) ts
theorem ok__law_cell {fa : Addr} {fd : FuncData} (F : FnP K "_law_cell" s__law_cell fa fd) (hm : mg "_law_cell" = some (.ref fa)) (p0 : cl.pin = none) (g_int : mg "int" = none) (g_len : mg "len" = none) : Dok cl Pr w K mg base "_law_cell" 1 2 f__law_cell := by
  have hN : (["script", "k", "seed", "cell"] : List Str).Nodup := sc__law_cell.nd
  refine dok_of (N := ["script", "k", "seed", "cell"]) (ps := ["script", "k"]) F sc__law_cell rfl (by decide) p0 hm (fun _ _ => rfl) (fun _ _ _ _ _ _ us hl => match us, hl with | [_, _], _ => rfl) (fun d cdv A outer s H E hr => ?_)
  exact (db_cons (ds_if (dt_cmp opD_lt (de_v 1) (de_b crd_len g_len (by decide +kernel) (da_cons (de_v 0) da_nil)))
  (db_one (ds_ret (de_ty crd_int g_int (by decide +kernel) (da_cons (de_ix (de_v 0) (de_v 1)) da_nil))))
  db_nil)
  (db_cons (ds_asg (i := 2) hN de_int)
  (db_cons (ds_for po_of (di_seq (de_v 0)) (dg_name (i := 3) hN)
  (db_one (ds_asg (i := 2) hN (de_op opD_mod (de_ty crd_int g_int (by decide +kernel) (da_cons (de_op opD_add (de_op opD_mul (de_v 2) de_int) (de_op opD_mod (de_ty crd_int g_int (by decide +kernel) (da_cons (de_v 3) da_nil)) de_int)) da_nil)) de_int))))
  (db_one (ds_ret (de_op opD_mod (de_ty crd_int g_int (by decide +kernel) (da_cons (de_op opD_mul (de_op opD_mul (de_op opD_add (de_v 2) de_int) (de_op opD_add (de_v 1) de_int)) de_int) da_nil)) de_int))))))
/-! ### is_whole -/
theorem sc_is_whole : FnScope ["value"] ["value"] (defScope s_is_whole) := ⟨rfl, rfl, rfl, by decide +kernel, rfl, by decide +kernel, by decide +kernel⟩
def S_is_whole (d : Nat) : Sx :=
  S.ret (P.andV (P.un (T.isi "int") (P.var d 0)) (P.notV (P.un (T.isi "bool") (P.var d 0))))
def f_is_whole (d : Nat) (ts : List T) : Res T := run 1 (S_is_whole d) ts
theorem ok_is_whole {fa : Addr} {fd : FuncData} (F : FnP K "is_whole" s_is_whole fa fd) (hm : mg "is_whole" = some (.ref fa)) (p0 : cl.pin = none) (g_bool : mg "bool" = none) (g_int : mg "int" = none) (g_isinstance : mg "isinstance" = none) : Dok cl Pr w K mg base "is_whole" 1 1 f_is_whole := by
  have hN : (["value"] : List Str).Nodup := sc_is_whole.nd
  refine dok_of (N := ["value"]) (ps := ["value"]) F sc_is_whole rfl (by decide) p0 hm (fun _ _ => rfl) (fun _ _ _ _ _ _ us hl => match us, hl with | [_], _ => rfl) (fun d cdv A outer s H E hr => ?_)
  exact (db_one (ds_ret (de_and (de_isi g_isinstance g_int (by decide +kernel) (de_v 0)) (de_one (de_not (de_isi g_isinstance g_bool (by decide +kernel) (de_v 0)))))))
/-! ### is_side_lot -/
theorem sc_is_side_lot : FnScope ["many", "lot"] ["many", "lot"] (defScope s_is_side_lot) := ⟨rfl, rfl, rfl, by decide +kernel, rfl, by decide +kernel, by decide +kernel⟩
def S_is_side_lot (d : Nat) : Sx :=
  S.ret (P.andV (P.call (f_is_whole (d + 1)) (P.cons (P.var d 1) P.nil)) (P.chain T.lt T.lt (P.c (.int 0)) (P.var d 1) (P.bin T.sub (P.bin T.shl (P.c (.int 1)) (P.var d 0)) (P.c (.int 1)))))
def f_is_side_lot (d : Nat) (ts : List T) : Res T := run 2 (S_is_side_lot d) ts
theorem ok_is_side_lot {fa : Addr} {fd : FuncData} (F : FnP K "is_side_lot" s_is_side_lot fa fd) (hm : mg "is_side_lot" = some (.ref fa)) (D_is_whole : Dok cl Pr w K mg base "is_whole" 1 1 f_is_whole) (p0 : cl.pin = none) : Dok cl Pr w K mg base "is_side_lot" 2 2 f_is_side_lot := by
  have hN : (["many", "lot"] : List Str).Nodup := sc_is_side_lot.nd
  refine dok_of (N := ["many", "lot"]) (ps := ["many", "lot"]) F sc_is_side_lot rfl (by decide) p0 hm (fun _ _ => rfl) (fun _ _ _ _ _ _ us hl => match us, hl with | [_, _], _ => rfl) (fun d cdv A outer s H E hr => ?_)
  exact (db_one (ds_ret (de_and (de_d D_is_whole (hr.mono (by decide)) (da_cons (de_v 1) da_nil) (n_cons n_nil)) (de_one (de_chain opD_lt opD_lt de_int (de_v 1) (de_op opD_sub (de_op opD_shl de_int (de_v 0)) de_int))))))
/-! ### side -/
theorem sc_side : FnScope ["many", "lot"] ["many", "lot"] (defScope s_side) := ⟨rfl, rfl, rfl, by decide +kernel, rfl, by decide +kernel, by decide +kernel⟩
def S_side (d : Nat) : Sx :=
  S.seq (S.ite (P.not (P.tb (P.call (f_is_side_lot (d + 1)) (P.cons (P.var d 0) (P.cons (P.var d 1) P.nil)))))
  (S.raise_ 2 ["lot"] (P.cons (P.var d 1) P.nil))
  S.skip)
  (S.seq (S.ite (P.tb (P.bin T.eq (P.bin T.band (P.var d 1) (P.c (.int 1))) (P.c (.int 1))))
  (S.ret (P.bin T.sub (P.bin T.sub (P.bin T.shl (P.c (.int 1)) (P.var d 0)) (P.c (.int 1))) (P.var d 1)))
  S.skip)
  (S.ret (P.var d 1)))
def f_side (d : Nat) (ts : List T) : Res T := run 2 (S_side d) ts
theorem ok_side {fa : Addr} {fd : FuncData} (F : FnP K "side" s_side fa fd) (hm : mg "side" = some (.ref fa)) (D_is_side_lot : Dok cl Pr w K mg base "is_side_lot" 2 2 f_is_side_lot) (p0 : cl.pin = none) (x_BadLot : Xok cl Pr w K mg base "BadLot" 2 ["lot"]) : Dok cl Pr w K mg base "side" 3 2 f_side := by
  have hN : (["many", "lot"] : List Str).Nodup := sc_side.nd
  refine dok_of (N := ["many", "lot"]) (ps := ["many", "lot"]) F sc_side rfl (by decide) p0 hm (fun _ _ => rfl) (fun _ _ _ _ _ _ us hl => match us, hl with | [_, _], _ => rfl) (fun d cdv A outer s H E hr => ?_)
  exact (db_cons (ds_if (dt_not (dt_val (de_d D_is_side_lot (hr.mono (by decide)) (da_cons (de_v 0) (da_cons (de_v 1) da_nil)) (n_cons (n_cons n_nil)))))
  (db_one (ds_raise x_BadLot (hr.mono (by decide)) (da_cons (de_v 1) da_nil)))
  db_nil)
  (db_cons (ds_if (dt_cmp (opD_eq hr.units) (de_op opD_band (de_v 1) de_int) de_int)
  (db_one (ds_ret (de_op opD_sub (de_op opD_sub (de_op opD_shl de_int (de_v 0)) de_int) (de_v 1))))
  db_nil)
  (db_one (ds_ret (de_v 1)))))
/-! ### _law_whole -/
theorem sc__law_whole : FnScope ["value"] ["value"] (defScope s__law_whole) := ⟨rfl, rfl, rfl, by decide +kernel, rfl, by decide +kernel, by decide +kernel⟩
def S__law_whole (d : Nat) : Sx :=
  S.ret (P.andV (P.un (T.isi "int") (P.var d 0)) (P.notV (P.un (T.isi "bool") (P.var d 0))))
def f__law_whole (d : Nat) (ts : List T) : Res T := run 1 (S__law_whole d) ts
theorem ok__law_whole {fa : Addr} {fd : FuncData} (F : FnP K "_law_whole" s__law_whole fa fd) (hm : mg "_law_whole" = some (.ref fa)) (p0 : cl.pin = none) (g_bool : mg "bool" = none) (g_int : mg "int" = none) (g_isinstance : mg "isinstance" = none) : Dok cl Pr w K mg base "_law_whole" 1 1 f__law_whole := by
  have hN : (["value"] : List Str).Nodup := sc__law_whole.nd
  refine dok_of (N := ["value"]) (ps := ["value"]) F sc__law_whole rfl (by decide) p0 hm (fun _ _ => rfl) (fun _ _ _ _ _ _ us hl => match us, hl with | [_], _ => rfl) (fun d cdv A outer s H E hr => ?_)
  exact (db_one (ds_ret (de_and (de_isi g_isinstance g_int (by decide +kernel) (de_v 0)) (de_one (de_not (de_isi g_isinstance g_bool (by decide +kernel) (de_v 0)))))))
/-! ### _law_refused -/
theorem sc__law_refused : FnScope ["many", "lot", "e"] ["many", "lot"] (defScope s__law_refused) := ⟨rfl, rfl, rfl, by decide +kernel, rfl, by decide +kernel, by decide +kernel⟩
def S__law_refused (d : Nat) : Sx :=
  S.seq (S.try_ tab_BadLot 2 (S.exprY (P.call (f_side (d + 1)) (P.cons (P.var d 0) (P.cons (P.var d 1) P.nil))))
  (S.ret (P.andV (P.un (T.isx (tab_TownError)) (P.var d 2)) (P.andV (P.un (T.isx (tab_ValueError)) (P.var d 2)) (P.andV (P.notV (P.un (T.isx (tab_BadName)) (P.var d 2))) (P.bin T.eq (P.lst (P.cons (P.un (T.xf 2 "lot") (P.var d 2)) P.nil)) (P.lst (P.cons (P.var d 1) P.nil))))))))
  (S.ret (P.c (.bl false)))
def f__law_refused (d : Nat) (ts : List T) : Res T := run 3 (S__law_refused d) ts
theorem ok__law_refused {fa : Addr} {fd : FuncData} (F : FnP K "_law_refused" s__law_refused fa fd) (hm : mg "_law_refused" = some (.ref fa)) (D_side : Dok cl Pr w K mg base "side" 3 2 f_side) (p0 : cl.pin = none) (g_ValueError : mg "ValueError" = none) (g_isinstance : mg "isinstance" = none) (m_BadLot : mg "BadLot" = some (.ref (cl.f 2))) (m_BadName : mg "BadName" = some (.ref (cl.f 1))) (m_TownError : mg "TownError" = some (.ref (cl.f 0))) (e_BadLot : ∀ n b, tab_BadLot n = some b → PySem.W.exmOne K (.ref (cl.f n)) (.ref (cl.f 2)) = some b) (i_BadName : ∀ n b, tab_BadName n = some b → IsC K (cl.f n) ∧ PySem.W.kitOne K (.ref (cl.f n)) (.ref (cl.f 1)) = some b) (i_TownError : ∀ n b, tab_TownError n = some b → IsC K (cl.f n) ∧ PySem.W.kitOne K (.ref (cl.f n)) (.ref (cl.f 0)) = some b) (i_ValueError : ∀ n b, tab_ValueError n = some b → IsC K (cl.f n) ∧ PySem.W.kitOne K (.ref (cl.f n)) (.type "ValueError") = some b) (xf_BadLot : XfC K (cl.f 2)) (na_BadLot_lot : PySem.W.findIn K (.ref (cl.f 2)) "lot" = some none) (h0 : cl.xh = none) : Dok cl Pr w K mg base "_law_refused" 4 2 f__law_refused := by
  have hN : (["many", "lot", "e"] : List Str).Nodup := sc__law_refused.nd
  refine dok_of (N := ["many", "lot", "e"]) (ps := ["many", "lot"]) F sc__law_refused rfl (by decide) p0 hm (fun _ _ => rfl) (fun _ _ _ _ _ _ us hl => match us, hl with | [_, _], _ => rfl) (fun d cdv A outer s H E hr => ?_)
  exact (db_cons (ds_try (i := 2) hN ⟨rfl, by decide, .inl m_BadLot⟩ e_BadLot (fun W' pn xe t po => db_one (ds_exprY (de_d D_side (hr.mono (by decide)) (da_cons (de_v 0) (da_cons (de_v 1) da_nil)) (n_cons (n_cons n_nil)) (tk := t)))) (fun a oe cls dx pn hz hf => db_one (ds_ret (de_and (de_isX g_isinstance (NC.own m_TownError) i_TownError hz hf (de_v 2)) (de_and (de_isX g_isinstance (NC.ty g_ValueError rfl) i_ValueError hz hf (de_v 2)) (de_and (de_not (de_isX g_isinstance (NC.own m_BadName) i_BadName hz hf (de_v 2))) (de_one (de_cmp (opD_eq hr.units) (de_lst (da_cons (de_xf xf_BadLot na_BadLot_lot hz hf (de_v 2)) da_nil)) (de_lst (da_cons (de_v 1) da_nil))))))))) tk_of h0)
  (db_one (ds_ret de_bl)))
/-! ### all_sides -/
theorem sc_all_sides : GScope ["many", "half"] ["many"] (defScope s_all_sides) := ⟨rfl, rfl, rfl, by decide +kernel, rfl, by decide +kernel, by decide +kernel⟩
def G_all_sides (d : Nat) : Gx :=
  Yl.seq (Yl.forX (S.tName 1) (P.rng2 (P.cons (P.c (.int 1)) (P.cons (P.bin T.shl (P.c (.int 1)) (P.bin T.sub (P.var d 0) (P.c (.int 1)))) P.nil)))
  (Yl.seq (Yl.yield (P.bin T.mul (P.c (.int 2)) (P.var d 1)))
  Yl.skip))
  Yl.skip
def f_all_sides (d : Nat) (ts : List T) : Res (List T) := runG 2 (G_all_sides d) ts
theorem okC_all_sides {fa : Addr} {fd : FuncData} (F : FnP K "all_sides" s_all_sides fa fd) (hm : mg "all_sides" = some (.ref fa)) (p0 : cl.pin = none) (g_range : mg "range" = none) : GokC cl Pr w K mg base "all_sides" 1 1 f_all_sides := by
  have hN : (["many", "half"] : List Str).Nodup := sc_all_sides.nd
  refine gokC_of (N := ["many", "half"]) (ps := ["many"]) F sc_all_sides rfl (by decide) p0 hm (fun _ _ => rfl) (fun _ _ _ _ _ _ us hl => match us, hl with | [_], _ => rfl) (fun d cdv A outer s H E pn hr => ?_)
  exact (dya_cons (dyo_forX (W := WOf E) owns_gcx (dif_rng2 (da_cons de_int (da_cons (de_op opD_shl de_int (de_op opD_sub (de_v 0) de_int)) da_nil)) g_range) (dg_name (i := 1) hN)
  (dya_cons (dyo_yield (W := WOf E) (de_op opD_mul de_int (de_v 1)))
  dya_nil))
  dya_nil)
/-! ### _law_holds -/
theorem sc__law_holds : FnScope ["many", "far", "full", "seen", "lot", "told", "due", "value", "listed", "k"] ["many", "far"] (defScope s__law_holds) := ⟨rfl, rfl, rfl, by decide +kernel, rfl, by decide +kernel, by decide +kernel⟩
def S__law_holds (d : Nat) : Sx :=
  S.seq (S.asg 2 (P.bin T.sub (P.bin T.shl (P.c (.int 1)) (P.var d 0)) (P.c (.int 1))))
  (S.seq (S.new 3 (lfits P.nil))
  (S.seq (S.forX (S.tName 4) (P.rng2 (P.cons (P.un T.neg (P.c (.int 3))) (P.cons (P.bin T.add (P.var d 2) (P.c (.int 5))) P.nil)))
  (S.ite (P.tb (P.chain T.lt T.lt (P.c (.int 0)) (P.var d 4) (P.var d 2)))
  (S.seq (S.asg 5 (P.call (f_side (d + 1)) (P.cons (P.var d 0) (P.cons (P.var d 4) P.nil))))
  (S.seq (S.asg 6 (P.var d 4))
  (S.seq (S.ite (P.tb (P.bin T.eq (P.bin T.mod (P.call (fun ts => .of (B.int ts)) (P.cons (P.var d 4) P.nil)) (P.c (.int 2))) (P.c (.int 1))))
  (S.asg 6 (P.bin T.sub (P.var d 2) (P.var d 4)))
  S.skip)
  (S.seq (S.ite (P.or (P.not (P.tb (P.call (f__law_whole (d + 1)) (P.cons (P.var d 5) P.nil)))) (P.or (P.tb (P.bin T.ne (P.var d 5) (P.var d 6))) (P.tb (P.bin T.ne (P.call (f_side (d + 1)) (P.cons (P.var d 0) (P.cons (P.bin T.sub (P.var d 2) (P.var d 4)) P.nil))) (P.var d 5)))))
  (S.ret (P.c (.bl false)))
  S.skip)
  (S.ite (P.tb (P.bin (T.isIn true) (P.var d 5) (P.var d 3)))
  (S.app 3 (P.var d 5))
  S.skip)))))
  (S.ite (P.not (P.tb (P.call (f__law_refused (d + 1)) (P.cons (P.var d 0) (P.cons (P.var d 4) P.nil)))))
  (S.ret (P.c (.bl false)))
  S.skip)))
  (S.seq (S.for_ (S.tName 7) (P.items (P.lst (P.cons (P.bin T.add (P.bin T.add (P.var d 2) (P.c (.int 4))) (P.bin T.ix (P.var d 1) (P.c (.int 0)))) (P.cons (P.bin T.sub (P.un T.neg (P.c (.int 4))) (P.bin T.ix (P.var d 1) (P.c (.int 1)))) (P.cons (P.bin T.add (P.bin T.mul (P.c (.int 2)) (P.var d 2)) (P.bin T.ix (P.var d 1) (P.c (.int 2)))) (P.cons (P.c (.bl true)) (P.cons (P.c (.bl false)) (P.cons (P.c .non) (P.cons (P.c (.str "2")) (P.cons (P.lst (P.cons (P.c (.int 2)) P.nil)) (P.cons (P.tup (P.cons (P.c (.int 2)) P.nil)) P.nil)))))))))))
  (S.ite (P.not (P.tb (P.call (f__law_refused (d + 1)) (P.cons (P.var d 0) (P.cons (P.var d 7) P.nil)))))
  (S.ret (P.c (.bl false)))
  S.skip))
  (S.seq (S.asg 8 (P.listG (f_all_sides (d + 1)) (P.cons (P.var d 0) P.nil)))
  (S.seq (S.ite (P.or (P.tb (P.bin T.ne (P.var d 8) (P.lc [9] (S.tName 9) (P.rng2 (P.cons (P.c (.int 1)) (P.cons (P.bin T.shl (P.c (.int 1)) (P.bin T.sub (P.var d 0) (P.c (.int 1)))) P.nil))) P.yes (P.bin T.mul (P.c (.int 2)) (P.var d 9))))) (P.tb (P.bin T.ne (P.call (fun ts => .of (B.sorted ts)) (P.cons (P.var d 3) P.nil)) (P.var d 8))))
  (S.ret (P.c (.bl false)))
  S.skip)
  (S.seq (S.for_ (S.tName 4) (P.items (P.var d 8))
  (S.ite (P.not (P.tb (P.call (f__law_whole (d + 1)) (P.cons (P.var d 4) P.nil))))
  (S.ret (P.c (.bl false)))
  S.skip))
  (S.ret (P.bin T.eq (P.listG (f_all_sides (d + 1)) (P.cons (P.var d 0) P.nil)) (P.var d 8)))))))))
def f__law_holds (d : Nat) (ts : List T) : Res T := run 10 (S__law_holds d) ts
theorem ok__law_holds {fa : Addr} {fd : FuncData} (F : FnP K "_law_holds" s__law_holds fa fd) (hm : mg "_law_holds" = some (.ref fa)) (D__law_refused : Dok cl Pr w K mg base "_law_refused" 4 2 f__law_refused) (D__law_whole : Dok cl Pr w K mg base "_law_whole" 1 1 f__law_whole) (D_side : Dok cl Pr w K mg base "side" 3 2 f_side) (Z_all_sides : GokC cl Pr w K mg base "all_sides" 1 1 f_all_sides) (p0 : cl.pin = none) (g_int : mg "int" = none) (g_range : mg "range" = none) (g_sorted : mg "sorted" = none) : Dok cl Pr w K mg base "_law_holds" 5 2 f__law_holds := by
  have hN : (["many", "far", "full", "seen", "lot", "told", "due", "value", "listed", "k"] : List Str).Nodup := sc__law_holds.nd
  refine dok_of (N := ["many", "far", "full", "seen", "lot", "told", "due", "value", "listed", "k"]) (ps := ["many", "far"]) F sc__law_holds rfl (by decide) p0 hm (fun _ _ => rfl) (fun _ _ _ _ _ _ us hl => match us, hl with | [_, _], _ => rfl) (fun d cdv A outer s H E hr => ?_)
  exact (db_cons (ds_asg (i := 2) hN (de_op opD_sub (de_op opD_shl de_int (de_v 0)) de_int))
  (db_cons (ds_new (i := 3) hN (dn_lst da_nil))
  (db_cons (ds_forX po_of (dif_rng2 (da_cons (de_un unD_neg de_int) (da_cons (de_op opD_add (de_v 2) de_int) da_nil)) g_range) (dg_name (i := 4) hN)
  (db_one (ds_if (dt_chain opD_lt opD_lt de_int (de_v 4) (de_v 2))
  (db_cons (ds_asg (i := 5) hN (de_d D_side (hr.mono (by decide)) (da_cons (de_v 0) (da_cons (de_v 4) da_nil)) (n_cons (n_cons n_nil))))
  (db_cons (ds_asg (i := 6) hN (de_v 4))
  (db_cons (ds_if (dt_cmp (opD_eq hr.units) (de_op opD_mod (de_ty crd_int g_int (by decide +kernel) (da_cons (de_v 4) da_nil)) de_int) de_int)
  (db_one (ds_asg (i := 6) hN (de_op opD_sub (de_v 2) (de_v 4))))
  db_nil)
  (db_cons (ds_if (dt_w (dw_or (dt_not (dt_val (de_d D__law_whole (hr.mono (by decide)) (da_cons (de_v 5) da_nil) (n_cons n_nil)))) (dw_or (dt_cmp (opD_ne hr.units) (de_v 5) (de_v 6)) (dw_or1 (dt_cmp (opD_ne hr.units) (de_d D_side (hr.mono (by decide)) (da_cons (de_v 0) (da_cons (de_op opD_sub (de_v 2) (de_v 4)) da_nil)) (n_cons (n_cons n_nil))) (de_v 5))))))
  (db_one (ds_ret de_bl))
  db_nil)
  (db_one (ds_if (dt_cmp opD_notIn (de_v 5) (de_v 3))
  (db_one (ds_app (i := 3) (de_v 5)))
  db_nil))))))
  (db_one (ds_if (dt_not (dt_val (de_d D__law_refused (hr.mono (by decide)) (da_cons (de_v 0) (da_cons (de_v 4) da_nil)) (n_cons (n_cons n_nil)))))
  (db_one (ds_ret de_bl))
  db_nil)))))
  (db_cons (ds_for po_of (di_seq (de_lst (da_cons (de_op opD_add (de_op opD_add (de_v 2) de_int) (de_ix (de_v 1) de_int)) (da_cons (de_op opD_sub (de_un unD_neg de_int) (de_ix (de_v 1) de_int)) (da_cons (de_op opD_add (de_op opD_mul de_int (de_v 2)) (de_ix (de_v 1) de_int)) (da_cons de_bl (da_cons de_bl (da_cons de_non (da_cons de_str (da_cons (de_lst (da_cons de_int da_nil)) (da_cons (de_tup (da_cons de_int da_nil)) da_nil))))))))))) (dg_name (i := 7) hN)
  (db_one (ds_if (dt_not (dt_val (de_d D__law_refused (hr.mono (by decide)) (da_cons (de_v 0) (da_cons (de_v 7) da_nil)) (n_cons (n_cons n_nil)))))
  (db_one (ds_ret de_bl))
  db_nil)))
  (db_cons (ds_asgLcG (i := 8) hN Z_all_sides (hr.mono (by decide)) (blkOk_by (own := [("lot", 4)]) (by rfl)) (da_cons (de_v 0) da_nil) (n_cons n_nil) (sw_true rfl rfl rfl (by decide +kernel)))
  (db_cons (ds_if (dt_w (dw_or (dt_cmp (opD_ne hr.units) (de_v 8) (DN.de (dn_lc hN (DIF.di (dif_rng2 (da_cons de_int (da_cons (de_op opD_shl de_int (de_op opD_sub (de_v 0) de_int)) da_nil)) g_range)) (blkOk_by (own := [("k", 9)]) (by rfl)) (fun _ _ _ _ _ => dc_name (i := 9) (by decide) hN) (fun _ _ _ _ _ => dts_nil) (fun _ _ _ _ _ => de_op opD_mul de_int (de_v 9))))) (dw_or1 (dt_cmp (opD_ne hr.units) (de_b crd_sorted g_sorted (by decide +kernel) (da_cons (de_v 3) da_nil)) (de_v 8)))))
  (db_one (ds_ret de_bl))
  db_nil)
  (db_cons (ds_for po_of (di_seq (de_v 8)) (dg_name (i := 4) hN)
  (db_one (ds_if (dt_not (dt_val (de_d D__law_whole (hr.mono (by decide)) (da_cons (de_v 4) da_nil) (n_cons n_nil))))
  (db_one (ds_ret de_bl))
  db_nil)))
  (db_one (ds_ret (de_cmp (opD_eq hr.units) (de_lcG Z_all_sides (hr.mono (by decide)) (blkOk_by (own := [("lot", 4)]) (by rfl)) (da_cons (de_v 0) da_nil) (n_cons n_nil)) (de_v 8)))))))))))
/-! ### law -/
theorem sc_law : FnScope ["script", "row", "first", "second"] ["script"] (defScope s_law) := ⟨rfl, rfl, rfl, by decide +kernel, rfl, by decide +kernel, by decide +kernel⟩
def S_law (d : Nat) : Sx :=
  S.seq (S.asg 1 (P.call (f__law_digits (d + 1)) (P.cons (P.call (f__law_cell (d + 1)) (P.cons (P.var d 0) (P.cons (P.c (.int 0)) P.nil))) (P.cons (P.lst (P.cons (P.c (.int 5)) (P.cons (P.c (.int 4)) (P.cons (P.c (.int 1000)) (P.cons (P.c (.int 1000)) (P.cons (P.c (.int 1000)) P.nil)))))) P.nil))))
  (S.seq (S.asg 2 (P.bin T.add (P.c (.int 2)) (P.bin T.ix (P.var d 1) (P.c (.int 0)))))
  (S.seq (S.asg 3 (P.bin T.add (P.c (.int 2)) (P.bin T.mod (P.call (fun ts => .of (B.int ts)) (P.cons (P.bin T.add (P.bin T.add (P.bin T.ix (P.var d 1) (P.c (.int 0))) (P.c (.int 1))) (P.bin T.ix (P.var d 1) (P.c (.int 1)))) P.nil)) (P.c (.int 5)))))
  (S.ret (P.andV (P.call (f__law_holds (d + 1)) (P.cons (P.var d 2) (P.cons (P.cutA (P.var d 1) (some (P.c (.int 2))) none) P.nil))) (P.andV (P.call (f__law_holds (d + 1)) (P.cons (P.var d 3) (P.cons (P.cutA (P.var d 1) (some (P.c (.int 2))) none) P.nil))) (P.call (f__law_holds (d + 1)) (P.cons (P.var d 2) (P.cons (P.cutA (P.var d 1) (some (P.c (.int 2))) none) P.nil))))))))
def f_law (d : Nat) (ts : List T) : Res T := run 4 (S_law d) ts
theorem ok_law {fa : Addr} {fd : FuncData} (F : FnP K "law" s_law fa fd) (hm : mg "law" = some (.ref fa)) (D__law_cell : Dok cl Pr w K mg base "_law_cell" 1 2 f__law_cell) (D__law_digits : Dok cl Pr w K mg base "_law_digits" 1 2 f__law_digits) (D__law_holds : Dok cl Pr w K mg base "_law_holds" 5 2 f__law_holds) (p0 : cl.pin = none) (g_int : mg "int" = none) : Dok cl Pr w K mg base "law" 6 1 f_law := by
  have hN : (["script", "row", "first", "second"] : List Str).Nodup := sc_law.nd
  refine dok_of (N := ["script", "row", "first", "second"]) (ps := ["script"]) F sc_law rfl (by decide) p0 hm (fun _ _ => rfl) (fun _ _ _ _ _ _ us hl => match us, hl with | [_], _ => rfl) (fun d cdv A outer s H E hr => ?_)
  exact (db_cons (ds_asg (i := 1) hN (de_d D__law_digits (hr.mono (by decide)) (da_cons (de_d D__law_cell (hr.mono (by decide)) (da_cons (de_v 0) (da_cons de_int da_nil)) (n_cons (n_cons n_nil))) (da_cons (de_lst (da_cons de_int (da_cons de_int (da_cons de_int (da_cons de_int (da_cons de_int da_nil)))))) da_nil)) (n_cons (n_cons n_nil))))
  (db_cons (ds_asg (i := 2) hN (de_op opD_add de_int (de_ix (de_v 1) de_int)))
  (db_cons (ds_asg (i := 3) hN (de_op opD_add de_int (de_op opD_mod (de_ty crd_int g_int (by decide +kernel) (da_cons (de_op opD_add (de_op opD_add (de_ix (de_v 1) de_int) de_int) (de_ix (de_v 1) de_int)) da_nil)) de_int)))
  (db_one (ds_ret (de_and (de_d D__law_holds (hr.mono (by decide)) (da_cons (de_v 2) (da_cons (de_cutA (de_v 1) (do_some de_int) do_none) da_nil)) (n_cons (n_cons n_nil))) (de_and (de_d D__law_holds (hr.mono (by decide)) (da_cons (de_v 3) (da_cons (de_cutA (de_v 1) (do_some de_int) do_none) da_nil)) (n_cons (n_cons n_nil))) (de_one (de_d D__law_holds (hr.mono (by decide)) (da_cons (de_v 2) (da_cons (de_cutA (de_v 1) (do_some de_int) do_none) da_nil)) (n_cons (n_cons n_nil)))))))))))
theorem okF_law {fa : Addr} {fd : FuncData} (F : FnP K "law" s_law fa fd) (D__law_cell : Dok cl Pr w K mg base "_law_cell" 1 2 f__law_cell) (D__law_digits : Dok cl Pr w K mg base "_law_digits" 1 2 f__law_digits) (D__law_holds : Dok cl Pr w K mg base "_law_holds" 5 2 f__law_holds) (p0 : cl.pin = none) (g_int : mg "int" = none) : FnOk Pr w K mg base (L2.CX Pr w) 6 fa fd ["script"] (spT ⟨K, cl⟩ 1 f_law) := by
  have hN : (["script", "row", "first", "second"] : List Str).Nodup := sc_law.nd
  refine def_ok (N := ["script", "row", "first", "second"]) (ps := ["script"]) F sc_law rfl (by decide) p0 (fun _ _ => rfl) (fun d cdv A outer s H E hr => ?_)
  exact (db_cons (ds_asg (i := 1) hN (de_d D__law_digits (hr.mono (by decide)) (da_cons (de_d D__law_cell (hr.mono (by decide)) (da_cons (de_v 0) (da_cons de_int da_nil)) (n_cons (n_cons n_nil))) (da_cons (de_lst (da_cons de_int (da_cons de_int (da_cons de_int (da_cons de_int (da_cons de_int da_nil)))))) da_nil)) (n_cons (n_cons n_nil))))
  (db_cons (ds_asg (i := 2) hN (de_op opD_add de_int (de_ix (de_v 1) de_int)))
  (db_cons (ds_asg (i := 3) hN (de_op opD_add de_int (de_op opD_mod (de_ty crd_int g_int (by decide +kernel) (da_cons (de_op opD_add (de_op opD_add (de_ix (de_v 1) de_int) de_int) (de_ix (de_v 1) de_int)) da_nil)) de_int)))
  (db_one (ds_ret (de_and (de_d D__law_holds (hr.mono (by decide)) (da_cons (de_v 2) (da_cons (de_cutA (de_v 1) (do_some de_int) do_none) da_nil)) (n_cons (n_cons n_nil))) (de_and (de_d D__law_holds (hr.mono (by decide)) (da_cons (de_v 3) (da_cons (de_cutA (de_v 1) (do_some de_int) do_none) da_nil)) (n_cons (n_cons n_nil))) (de_one (de_d D__law_holds (hr.mono (by decide)) (da_cons (de_v 2) (da_cons (de_cutA (de_v 1) (do_some de_int) do_none) da_nil)) (n_cons (n_cons n_nil)))))))))))
end
/-! ### the head -/
theorem facts {Pr : Program} {w : World} {K : PySem.W.Frag} {h : Heap} {mg : Str → Option Value} {f : Addr} (X : K.In h) (G : h.Ns mainGlobals mg) (hfa : mg ("law" : Str) = some (.ref f)) (c : SaysX fa fn xs K) :
    ∃ fd : FuncData, (∀ (s : Shared) (v : Value), BindsTo s fd ⟨[v], []⟩ [("script", v)]) ∧ ∀ base : Heap, K.In base → base.Ns mainGlobals mg → FnOk Pr w K mg base (L2.CX Pr w) 6 f fd ["script"] (spT ⟨K, clOf clNames K⟩ 1 f_law) := by
  obtain ⟨fd__law_digits, F__law_digits⟩ := c.def_ 0 rfl
  have m__law_digits := He.glo_ok X G (c.fact 0 (f := .glo "_law_digits") rfl)
  obtain ⟨fd__law_cell, F__law_cell⟩ := c.def_ 1 rfl
  have m__law_cell := He.glo_ok X G (c.fact 1 (f := .glo "_law_cell") rfl)
  obtain ⟨fd_is_whole, F_is_whole⟩ := c.def_ 2 rfl
  have m_is_whole := He.glo_ok X G (c.fact 2 (f := .glo "is_whole") rfl)
  obtain ⟨fd_is_side_lot, F_is_side_lot⟩ := c.def_ 3 rfl
  have m_is_side_lot := He.glo_ok X G (c.fact 3 (f := .glo "is_side_lot") rfl)
  obtain ⟨fd_side, F_side⟩ := c.def_ 4 rfl
  have m_side := He.glo_ok X G (c.fact 4 (f := .glo "side") rfl)
  obtain ⟨fd__law_whole, F__law_whole⟩ := c.def_ 5 rfl
  have m__law_whole := He.glo_ok X G (c.fact 5 (f := .glo "_law_whole") rfl)
  obtain ⟨fd__law_refused, F__law_refused⟩ := c.def_ 6 rfl
  have m__law_refused := He.glo_ok X G (c.fact 6 (f := .glo "_law_refused") rfl)
  obtain ⟨fd_all_sides, F_all_sides⟩ := c.def_ 7 rfl
  have m_all_sides := He.glo_ok X G (c.fact 7 (f := .glo "all_sides") rfl)
  obtain ⟨fd__law_holds, F__law_holds⟩ := c.def_ 8 rfl
  have m__law_holds := He.glo_ok X G (c.fact 8 (f := .glo "_law_holds") rfl)
  obtain ⟨fd_law, F_law⟩ := c.def_ 9 rfl
  have m_law := He.glo_ok X G (c.fact 9 (f := .glo "law") rfl)
  have m_BadLot := He.glo_ok X G (c.fact 10 (f := .glo "BadLot") rfl)
  have m_BadName := He.glo_ok X G (c.fact 11 (f := .glo "BadName") rfl)
  have m_TownError := He.glo_ok X G (c.fact 12 (f := .glo "TownError") rfl)
  have g_ValueError := He.free_ok X G (c.fact 13 (f := .free "ValueError") rfl)
  have g_bool := He.free_ok X G (c.fact 14 (f := .free "bool") rfl)
  have g_int := He.free_ok X G (c.fact 15 (f := .free "int") rfl)
  have g_isinstance := He.free_ok X G (c.fact 16 (f := .free "isinstance") rfl)
  have g_len := He.free_ok X G (c.fact 17 (f := .free "len") rfl)
  have g_range := He.free_ok X G (c.fact 18 (f := .free "range") rfl)
  have g_sorted := He.free_ok X G (c.fact 19 (f := .free "sorted") rfl)
  obtain ⟨ox_BadLot, is_BadLot, xf_BadLot⟩ := excB_ok (c.x 0 rfl)
  have e_BadLot := exmB_ok (ns := clNames) (c.x 2 rfl)
  have i_BadName := kitsB_ok (ns := clNames) (c.x 3 rfl)
  have i_TownError := kitsB_ok (ns := clNames) (c.x 4 rfl)
  have i_ValueError := kitsB_ok (ns := clNames) (c.x 5 rfl)
  have na_BadLot_lot := He.noat_ok (c.fact 20 (f := .noat "BadLot" "lot") rfl)
  obtain ⟨fdI_BadLot, FI_BadLot⟩ := c.def_ 10 rfl
  obtain ⟨iC_BadLot, tI_BadLot⟩ := iniB_ok (c.x 1 rfl)
  have nx_BadLot_lot := He.noat_ok (c.fact 20 (f := .noat "BadLot" "lot") rfl)
  have x_BadLot : ∀ base : Heap, Xok (clOf clNames K) Pr w K mg base "BadLot" 2 ["lot"] := fun base =>
    xok1 (N := ["self", "lot"]) FI_BadLot ⟨rfl, rfl, rfl, by decide +kernel, rfl, by decide +kernel, by decide +kernel⟩ ox_BadLot iC_BadLot tI_BadLot nx_BadLot_lot m_BadLot rfl (fun _ _ _ _ _ _ us hl => match us, hl with | [_, _], _ => rfl) (fun cdv A outer s H E => pss_one (ps_ost (pe_var (i := 0) rfl (.inl rfl)) (pe_var (i := 1) rfl (.inl rfl))))
  have e := hfa.symm.trans m_law
  cases e
  have b := FunD.bindsA (ps := ["script"]) F_law fun _ _ _ _ _ _ us hl => match us, hl with | [_], _ => rfl
  refine ⟨fd_law, fun s v => b s [v] rfl, fun base _ _ => ?_⟩
  have D__law_digits := ok__law_digits (cl := clOf clNames K) (Pr := Pr) (w := w) (K := K) (mg := mg) (base := base) F__law_digits m__law_digits rfl g_int g_len g_range
  have D__law_cell := ok__law_cell (cl := clOf clNames K) (Pr := Pr) (w := w) (K := K) (mg := mg) (base := base) F__law_cell m__law_cell rfl g_int g_len
  have D_is_whole := ok_is_whole (cl := clOf clNames K) (Pr := Pr) (w := w) (K := K) (mg := mg) (base := base) F_is_whole m_is_whole rfl g_bool g_int g_isinstance
  have D_is_side_lot := ok_is_side_lot (cl := clOf clNames K) (Pr := Pr) (w := w) (K := K) (mg := mg) (base := base) F_is_side_lot m_is_side_lot D_is_whole rfl
  have D_side := ok_side (cl := clOf clNames K) (Pr := Pr) (w := w) (K := K) (mg := mg) (base := base) F_side m_side D_is_side_lot rfl (x_BadLot base)
  have D__law_whole := ok__law_whole (cl := clOf clNames K) (Pr := Pr) (w := w) (K := K) (mg := mg) (base := base) F__law_whole m__law_whole rfl g_bool g_int g_isinstance
  have D__law_refused := ok__law_refused (cl := clOf clNames K) (Pr := Pr) (w := w) (K := K) (mg := mg) (base := base) F__law_refused m__law_refused D_side rfl g_ValueError g_isinstance m_BadLot m_BadName m_TownError e_BadLot i_BadName i_TownError i_ValueError xf_BadLot na_BadLot_lot rfl
  have Z_all_sides := okC_all_sides (cl := clOf clNames K) (Pr := Pr) (w := w) (K := K) (mg := mg) (base := base) F_all_sides m_all_sides rfl g_range
  have D__law_holds := ok__law_holds (cl := clOf clNames K) (Pr := Pr) (w := w) (K := K) (mg := mg) (base := base) F__law_holds m__law_holds D__law_refused D__law_whole D_side Z_all_sides rfl g_int g_range g_sorted
  exact okF_law F_law D__law_cell D__law_digits D__law_holds rfl g_int
end Lw
section
open PySem PySem.W PySem.Calls PyProof.Rows
theorem lw_holds (pure : ∀ ns : List Int, ns.length ≤ 63 → Lw.f_law 1 [.ro (ns.map Py.T.int)] = .ok (.bl true)) : PySem.Challenge.rw_fullsides_k18_sides.Holds := by
  w_on; o_law
  refine HandSHeadRun.head_any (r := OpenLaw.row PySem.Challenge.rw_fullsides_k18_sides) (q := view (OpenLaw.row PySem.Challenge.rw_fullsides_k18_sides).prog [16]) (H := Lw.hk) (ob := Lw.ob) (M := 4000) (loose := Lw.loose) (d := HandSHeadRun.topDef (OpenLaw.row PySem.Challenge.rw_fullsides_k18_sides).prog 16) (kwd := []) Lw.ob_eq
    (by kernel_rfl) (fun s => by kernel_rfl) Lw.topRun (by kernel_rfl) (by kernel_rfl) (by kernel_rfl) (by rfl) (by first | assumption | decide +kernel) (by decide +kernel) ⟨rfl, rfl, rfl, rfl, rfl, by decide +kernel⟩ ?hw ?hc
  case hw => w_witness2
  case hc =>
    refine Py.walk_end (l := PySem.Challenge.rw_fullsides_k18_sides) (n := 63) (k := 6) (x := "script") rfl (by decide) (by kernel_rfl) ⟨rfl, by decide, by decide⟩ ?F
    intro w mg fa h Y G hmg0
    obtain ⟨K, KX, c⟩ := Y
    have hmg : mg ("law" : PySem.Str) = some (.ref fa) := by
      have e : (HandSHeadRun.topDef (OpenLaw.row PySem.Challenge.rw_fullsides_k18_sides).prog 16).name = ("law" : PySem.Str) := by kernel_rfl
      rw [← e]
      exact hmg0
    obtain ⟨fd, hb, hF⟩ := Lw.facts (Pr := (PySem.Challenge.rw_fullsides_k18_sides).prog) (w := w) KX G hmg c
    exact ⟨K, fd, Py.spT _ 1 Lw.f_law, KX, hb, fun H a ns hl _ _ hS => Py.law_end (pure ns hl) hS, hF⟩
end
namespace Lw
end Lw


set_option Elab.async false
set_option linter.all false
set_option maxRecDepth 100000
set_option maxHeartbeats 4000000
namespace Py
open PySem

/-! ### evaluation: what the combinators are on told frames -/
def RS.k (r : RS) (u : Sx) : RS := match r with
  | .nx env => u env
  | r => r
def flatAll (ts : List T) : Bool := ts.all flat
section
variable {α β : Type} {d i j : Nat} {env : Fv} {t : T} {ts : List T} {o : Option Sl} {p q : P.Ex1} {b c : P.Bx} {a : P.Ax} {s u : Sx} {f g : T → T → Option T}
@[simp] theorem k_nx : RS.k (.nx env) u = u env := nrfl rfl
@[simp] theorem k_rt : RS.k (.rt t) u = .rt t := nrfl rfl
@[simp] theorem k_br : RS.k (.br env) u = .br env := nrfl rfl
@[simp] theorem k_ct : RS.k (.ct env) u = .ct env := nrfl rfl
@[simp] theorem k_er {e : Exn} : RS.k (.er e env) u = .er e env := nrfl rfl
@[simp] theorem k_stuck : RS.k .stuck u = .stuck := nrfl rfl
@[simp] theorem k_ite {z : Prop} [Decidable z] {x y : RS} : RS.k (if z then x else y) u = if z then RS.k x u else RS.k y u := by split <;> rfl
@[simp] theorem ev_seq : S.seq s u env = RS.k (s env) u := nrfl rfl
@[simp] theorem ev_skip : S.skip env = .nx env := nrfl rfl
@[simp] theorem fin_nx : fin (.nx env) = .ok .non := nrfl rfl
@[simp] theorem fin_rt : fin (.rt t) = .ok t := nrfl rfl
@[simp] theorem fin_er {e : Exn} : fin (.er e env) = .er e := nrfl rfl
@[simp] theorem fin_stuck : fin .stuck = .stuck := nrfl rfl
@[simp] theorem fin_ite {z : Prop} [Decidable z] {x y : RS} : fin (if z then x else y) = if z then fin x else fin y := by split <;> rfl
@[simp] theorem hide_nil : hide [] = [] := nrfl rfl
@[simp] theorem hide_cons : hide (o :: env) = Sl.hide o :: hide env := nrfl rfl
@[simp] theorem slh_none : Sl.hide none = none := nrfl rfl
@[simp] theorem slh_fz : Sl.hide (some (.fz t)) = some (.fz t) := nrfl rfl
@[simp] theorem slh_ol : Sl.hide (some (.ol ts)) = none := nrfl rfl
@[simp] theorem slh_od {ks : List (List L2.Key)} : Sl.hide (some (.od ks ts)) = none := nrfl rfl
@[simp] theorem slh_oi {cc : Nat} {ns : List Str} : Sl.hide (some (.oi cc ns ts)) = none := nrfl rfl
def slT (d i : Nat) : Option (Option Sl) → Option T
  | some (some (.fz t)) => some t
  | some (some (.ol ts)) => some (.lst (some (d, i)) ts)
  | some (some (.oi c ns ts)) => some (.ins (some (d, i)) c ns ts)
  | some (some (.od ks ts)) => some (.dct (some (d, i)) ks ts)
  | _ => none
@[simp] theorem ev_rd : rd d i env = slT d i env[i]? := nrfl rfl
@[simp] theorem slT_fz : slT d i (some (some (.fz t))) = some t := nrfl rfl
@[simp] theorem slT_ol : slT d i (some (some (.ol ts))) = some (.lst (some (d, i)) ts) := nrfl rfl
@[simp] theorem slT_od {ks : List (List L2.Key)} : slT d i (some (some (.od ks ts))) = some (.dct (some (d, i)) ks ts) := nrfl rfl
@[simp] theorem slT_oi {cc : Nat} {ns : List Str} : slT d i (some (some (.oi cc ns ts))) = some (.ins (some (d, i)) cc ns ts) := nrfl rfl
@[simp] theorem ev_asg : S.asg i p env = (p (hide env)).then_ env fun t => if i < env.length then .nx (env.set i (some (.fz t))) else .stuck := nrfl rfl
@[simp] theorem ev_asgX : S.asgX i p env = (p env).thenX env fun t => if flat t = true ∧ i < env.length then .nx (env.set i (some (.fz t))) else .stuck := nrfl rfl
@[simp] theorem ev_new {pn : Fv → Res (List T)} : S.new i pn env = (pn (hide env)).then_ env fun ts => if i < env.length then .nx (env.set i (some (.ol ts))) else .stuck := nrfl rfl
@[simp] theorem ev_ret : S.ret p env = (p (hide env)).then_ env fun t => .rt t := nrfl rfl
@[simp] theorem ev_retX : S.retX p env = (p env).thenX env fun t => if flat t = true then .rt t else .stuck := nrfl rfl
@[simp] theorem ev_retN : S.retN env = .rt .non := nrfl rfl
@[simp] theorem ev_brk : S.brk env = .br env := nrfl rfl
@[simp] theorem ev_cnt : S.cnt env = .ct env := nrfl rfl
@[simp] theorem ev_expr : S.expr p env = (p env).thenX env fun _ => .nx env := nrfl rfl
@[simp] theorem ev_ite : S.ite b s u env = (b env).thenX env fun c => if c = true then s env else u env := nrfl rfl
@[simp] theorem ev_for {tg : T → Fv → Option Fv} {pi : Fv → Res (List T)} : S.for_ tg pi s env = (pi (hide env)).then_ env fun ts => S.turns tg s ts env := nrfl rfl
@[simp] theorem ev_forX {tg : T → Fv → Option Fv} {pi : Fv → Res (List T)} : S.forX tg pi s env = (pi env).thenX env fun ts => if flatAll ts = true then S.turns tg s ts env else .stuck := nrfl rfl
@[simp] theorem ev_unp {tg : T → Fv → Option Fv} : S.unp tg p env = (p (hide env)).then_ env fun t => (match tg t env with
  | some env => .nx env
  | none => .stuck) := nrfl rfl
def appK (i : Nat) (m : Res T) (env : Fv) : Option (Option Sl) → RS
  | some (some (.ol ts)) => m.then_ env fun t => if ts.length < sizeLine then .nx (env.set i (some (.ol (ts ++ [t])))) else .stuck
  | _ => .stuck
def appXK (i : Nat) (m : Res T) (env : Fv) : Option (Option Sl) → RS
  | some (some (.ol ts)) => m.thenX env fun t => if flat t = true ∧ ts.length < sizeLine then .nx (env.set i (some (.ol (ts ++ [t])))) else .stuck
  | _ => .stuck
def frzK (i : Nat) (s : Sx) (env : Fv) : Option (Option Sl) → RS
  | some (some (.ol ts)) => s (env.set i (some (.fz (.lst none ts))))
  | some (some (.oi c ns ts)) => s (env.set i (some (.fz (.ins none c ns ts))))
  | some (some (.od ks ts)) => s (env.set i (some (.fz (.dct none ks ts))))
  | _ => s env
@[simp] theorem ev_app : S.app i p env = appK i (p (hide env)) env env[i]? := by
  unfold S.app appK
  rfl
@[simp] theorem ev_appX : S.appX i p env = appXK i (p env) env env[i]? := by
  unfold S.appX appXK
  rfl
@[simp] theorem ev_frz : S.frz i s env = frzK i s env env[i]? := by
  unfold S.frz frzK
  rfl
@[simp] theorem appK_ol {m : Res T} : appK i m env (some (some (.ol ts))) = m.then_ env fun t => if ts.length < sizeLine then .nx (env.set i (some (.ol (ts ++ [t])))) else .stuck := nrfl rfl
@[simp] theorem appXK_ol {m : Res T} : appXK i m env (some (some (.ol ts))) = m.thenX env fun t => if flat t = true ∧ ts.length < sizeLine then .nx (env.set i (some (.ol (ts ++ [t])))) else .stuck := nrfl rfl
@[simp] theorem frzK_ol : frzK i s env (some (some (.ol ts))) = s (env.set i (some (.fz (.lst none ts)))) := nrfl rfl
@[simp] theorem frzK_fz : frzK i s env (some (some (.fz t))) = s env := nrfl rfl
@[simp] theorem frzK_none : frzK i s env (some none) = s env := nrfl rfl
@[simp] theorem flat_int {z : Int} : flat (.int z) = true := nrfl rfl
@[simp] theorem flat_bl {z : Bool} : flat (.bl z) = true := nrfl rfl
@[simp] theorem flat_str {z : Str} : flat (.str z) = true := nrfl rfl
@[simp] theorem flat_non : flat .non = true := nrfl rfl
@[simp] theorem ev_tName : S.tName i t env = if i < env.length then some (env.set i (some (.fz t))) else none := nrfl rfl
@[simp] theorem ev_tTup {gs : List (T → Fv → Option Fv)} : S.tTup gs (.tup ts) env = S.tNames gs ts env := nrfl rfl
@[simp] theorem ev_tNames0 : S.tNames [] [] env = some env := nrfl rfl
@[simp] theorem ev_tNames {g : T → Fv → Option Fv} {gs : List (T → Fv → Option Fv)} : S.tNames (g :: gs) (t :: ts) env = (g t env).bind fun env => S.tNames gs ts env := nrfl rfl
@[simp] theorem ev_var : P.var d i env = Res.of (rd d i env) := nrfl rfl
@[simp] theorem ev_c : P.c t env = .ok t := nrfl rfl
@[simp] theorem ev_bin : P.bin f p q env = (p env).bind fun x => (q env).bind fun y => .of (f x y) := nrfl rfl
@[simp] theorem ev_un {h : T → Option T} : P.un h p env = (p env).bind fun x => .of (h x) := nrfl rfl
@[simp] theorem ev_tb : P.tb p env = (p env).bind fun x => .of x.boo := nrfl rfl
@[simp] theorem ev_tr : P.tr p env = (p env).bind fun x => .of x.tru := nrfl rfl
@[simp] theorem ev_and : P.and b c env = (b env).bind fun b => if b = true then c env else .ok false := nrfl rfl
@[simp] theorem ev_or : P.or b c env = (b env).bind fun b => if b = true then .ok true else c env := nrfl rfl
@[simp] theorem ev_not : P.not b env = (b env).bind fun b => .ok (!b) := nrfl rfl
@[simp] theorem ev_andV : P.andV p q env = (p env).bind fun x => (Res.of x.boo).bind fun b => if b = true then q env else .ok (.bl false) := nrfl rfl
@[simp] theorem ev_orV : P.orV p q env = (p env).bind fun x => (Res.of x.boo).bind fun b => if b = true then .ok (.bl true) else q env := nrfl rfl
@[simp] theorem ev_notV : P.notV p env = (p env).bind fun x => (Res.of x.boo).bind fun b => .ok (.bl (!b)) := nrfl rfl
@[simp] theorem ev_iteE : P.ite b p q env = (b env).bind fun b => if b = true then p env else q env := nrfl rfl
@[simp] theorem ev_chain {r : P.Ex1} : P.chain f g p q r env = (p env).bind fun x => (q env).bind fun y => (Res.of (f x y)).bind fun z => (Res.of z.boo).bind fun b => if b = true then (r env).bind fun u => .of (g y u) else .ok (.bl false) := nrfl rfl
@[simp] theorem ev_nil : P.nil env = .ok [] := nrfl rfl
@[simp] theorem ev_cons : P.cons p a env = (p env).bind fun x => (a env).bind fun xs => .ok (x :: xs) := nrfl rfl
@[simp] theorem ev_tup : P.tup a env = (a env).bind fun xs => if lfit xs.length = true then .ok (.tup xs) else .stuck := nrfl rfl
@[simp] theorem ev_lst : P.lst a env = (a env).bind fun xs => if lfit xs.length = true then .ok (.lst none xs) else .stuck := nrfl rfl
@[simp] theorem ev_lfits : lfits a env = (a env).bind fun xs => if lfit xs.length = true then .ok xs else .stuck := nrfl rfl
@[simp] theorem ev_call {h : List T → Res T} : P.call h a env = (a env).bind h := nrfl rfl
@[simp] theorem ev_items : P.items p env = (p env).bind fun t => .of t.items := nrfl rfl
@[simp] theorem ev_binN {h : T → T → Option (List T)} : P.binN h p q env = (p env).bind fun x => (q env).bind fun y => .of (h x y) := nrfl rfl
@[simp] theorem ev_lc {own : List Nat} {tg : T → Fv → Option Fv} {pi : Fv → Res (List T)} : P.lc own tg pi b p env = (P.comp own tg pi b p env).bind fun ys => .ok (.lst none ys) := nrfl rfl
@[simp] theorem ev_comp {own : List Nat} {tg : T → Fv → Option Fv} {pi : Fv → Res (List T)} : P.comp own tg pi b p env = (pi env).bind fun xs => if lfit xs.length = true then P.turnsC tg b p (wipeE env own) xs else .stuck := nrfl rfl
@[simp] theorem ev_wipe0 : wipeE env [] = env := nrfl rfl
@[simp] theorem ev_wipe {v : Nat} {vs : List Nat} : wipeE env (v :: vs) = (wipeE env vs).set v none := nrfl rfl
def rng1K : List T → Res (List T)
  | [.int n] => if rfit n = true then .ok (rng 0 n.toNat) else .stuck
  | _ => .stuck
def rng2K : List T → Res (List T)
  | [.int m, .int n] => if (rfit m && rfit n) = true then .ok (rng m (n - m).toNat) else .stuck
  | _ => .stuck
@[simp] theorem ev_rng1 : P.rng1 a env = (a env).bind rng1K := nrfl rfl
@[simp] theorem ev_rng2 : P.rng2 a env = (a env).bind rng2K := nrfl rfl
@[simp] theorem rng1K_int {n : Int} : rng1K [.int n] = if rfit n = true then .ok (rng 0 n.toNat) else .stuck := nrfl rfl
@[simp] theorem rng2K_int {m n : Int} : rng2K [.int m, .int n] = if (rfit m && rfit n) = true then .ok (rng m (n - m).toNat) else .stuck := nrfl rfl
@[simp] theorem flatAll_rng {lo : Int} {n : Nat} : flatAll (rng lo n) = true := List.all_eq_true.mpr fun x hx => by
  obtain ⟨k, _, rfl⟩ := List.mem_map.mp hx
  rfl
@[simp] theorem flatAll_ints {l : List Int} : flatAll (l.map T.int) = true := List.all_eq_true.mpr fun x hx => by
  obtain ⟨k, _, rfl⟩ := List.mem_map.mp hx
  rfl
@[simp] theorem ev_yes : P.yes env = .ok true := nrfl rfl
@[simp] theorem of_none : (Res.of (none : Option α)) = .stuck := nrfl rfl
@[simp] theorem of_ite {z : Prop} [Decidable z] {x y : Option α} : Res.of (if z then x else y) = if z then Res.of x else Res.of y := by split <;> rfl
@[simp] theorem bind_ite {z : Prop} [Decidable z] {x y : Res α} {h : α → Res β} : Res.bind (if z then x else y) h = if z then Res.bind x h else Res.bind y h := by split <;> rfl
@[simp] theorem then_ite {z : Prop} [Decidable z] {x y : Res α} {h : α → RS} : Res.then_ (if z then x else y) env h = if z then Res.then_ x env h else Res.then_ y env h := by split <;> rfl
@[simp] theorem thenX_ite {z : Prop} [Decidable z] {x y : Res α} {h : α → RS} : Res.thenX (if z then x else y) env h = if z then Res.thenX x env h else Res.thenX y env h := by split <;> rfl
end
/-! ### loops -/
theorem turns_pre {β : Type} {tg : T → Fv → Option Fv} {body : Sx} {g : β → T} {R : List β → Fv → Prop} : ∀ (xs : List β) (pre : List β) (env : Fv),
    (∀ p x post e, pre ++ xs = p ++ x :: post → R p e → ∃ e1 e2, tg (g x) e = some e1 ∧ (body e1 = .nx e2 ∨ body e1 = .ct e2) ∧ R (p ++ [x]) e2) → R pre env → ∃ e, S.turns tg body (xs.map g) env = .nx e ∧ R (pre ++ xs) e
  | [], pre, env, _, r => ⟨env, rfl, by rw [List.append_nil]; exact r⟩
  | x :: xs, pre, env, h, r => by
    obtain ⟨e1, e2, h1, h2, h3⟩ := h pre x xs env rfl r
    obtain ⟨e, h4, h5⟩ := turns_pre xs (pre ++ [x]) e2 (fun p y post e q => h p y post e (by rw [← q, List.append_assoc]; rfl)) h3
    refine ⟨e, ?_, by rw [List.append_assoc] at h5; exact h5⟩
    rw [List.map_cons]
    show (match tg (g x) env with
      | some env1 => (match body env1 with
        | .nx env => S.turns tg body (xs.map g) env
        | .ct env => S.turns tg body (xs.map g) env
        | .br env => .nx env
        | r => r)
      | none => .stuck) = _
    rw [h1]
    rcases h2 with h2 | h2
    · simp only [h2]; exact h4
    · simp only [h2]; exact h4
/-- a for whose state is a fold -/
theorem turns_fold {β σ : Type} {tg : T → Fv → Option Fv} {body : Sx} {g : β → T} {step : σ → β → σ} {R : σ → Fv → Prop} : ∀ (xs : List β) (s : σ) (env : Fv),
    (∀ s x e, x ∈ xs → R s e → ∃ e1 e2, tg (g x) e = some e1 ∧ (body e1 = .nx e2 ∨ body e1 = .ct e2) ∧ R (step s x) e2) → R s env → ∃ e, S.turns tg body (xs.map g) env = .nx e ∧ R (xs.foldl step s) e
  | [], s, env, _, r => ⟨env, rfl, r⟩
  | x :: xs, s, env, h, r => by
    obtain ⟨e1, e2, h1, h2, h3⟩ := h s x env List.mem_cons_self r
    obtain ⟨e, h4, h5⟩ := turns_fold xs (step s x) e2 (fun s y e m => h s y e (List.mem_cons_of_mem _ m)) h3
    refine ⟨e, ?_, h5⟩
    rw [List.map_cons]
    show (match tg (g x) env with
      | some env1 => (match body env1 with
        | .nx env => S.turns tg body (xs.map g) env
        | .ct env => S.turns tg body (xs.map g) env
        | .br env => .nx env
        | r => r)
      | none => .stuck) = _
    rw [h1]
    rcases h2 with h2 | h2
    · simp only [h2]; exact h4
    · simp only [h2]; exact h4
/-- a for that may return: found tells at which items -/
theorem turns_find {β : Type} {tg : T → Fv → Option Fv} {body : Sx} {g : β → T} {R : Fv → Prop} {hit : β → Bool} {r : T} : ∀ (xs : List β) (env : Fv),
    (∀ x e, x ∈ xs → R e → ∃ e1, tg (g x) e = some e1 ∧ ((hit x = true ∧ body e1 = .rt r) ∨ (hit x = false ∧ ∃ e2, (body e1 = .nx e2 ∨ body e1 = .ct e2) ∧ R e2))) → R env →
    (xs.any hit = true ∧ S.turns tg body (xs.map g) env = .rt r) ∨ (xs.any hit = false ∧ ∃ e, S.turns tg body (xs.map g) env = .nx e ∧ R e)
  | [], env, _, q => .inr ⟨rfl, env, rfl, q⟩
  | x :: xs, env, h, q => by
    obtain ⟨e1, h1, h2⟩ := h x env List.mem_cons_self q
    have e0 : S.turns tg body ((x :: xs).map g) env = (match tg (g x) env with
      | some env1 => (match body env1 with
        | .nx env => S.turns tg body (xs.map g) env
        | .ct env => S.turns tg body (xs.map g) env
        | .br env => .nx env
        | r => r)
      | none => .stuck) := nrfl rfl
    rw [e0, h1]
    rcases h2 with ⟨hh, hb⟩ | ⟨hh, e2, hb, hq⟩
    · exact .inl ⟨by rw [List.any_cons, hh]; rfl, by simp only [hb]⟩
    · rw [List.any_cons, hh, Bool.false_or]
      have ih := turns_find xs e2 (fun y e m => h y e (List.mem_cons_of_mem _ m)) hq
      rcases hb with hb | hb
      · simp only [hb]; exact ih
      · simp only [hb]; exact ih
theorem turnsC_map {β : Type} {tg : T → Fv → Option Fv} {b : P.Bx} {p : P.Ex1} {env : Fv} {g : β → T} {c : β → Bool} {f : β → T} : ∀ (xs : List β),
    (∀ x, x ∈ xs → ∃ e1, tg (g x) env = some e1 ∧ b e1 = .ok (c x) ∧ (c x = true → p e1 = .ok (f x))) → P.turnsC tg b p env (xs.map g) = .ok ((xs.filter c).map f)
  | [], _ => rfl
  | x :: xs, h => by
    obtain ⟨e1, h1, h2, h3⟩ := h x List.mem_cons_self
    have ih := turnsC_map xs fun y m => h y (List.mem_cons_of_mem _ m)
    rw [List.map_cons]
    show (match tg (g x) env with
      | some env1 => (match b env1 with
        | .ok bb => if bb = true then (match p env1 with
            | .ok y => (P.turnsC tg b p env (xs.map g)).bind fun ys => .ok (y :: ys)
            | _ => .stuck) else P.turnsC tg b p env (xs.map g)
        | _ => .stuck)
      | none => .stuck) = _
    simp only [h1, h2]
    cases q : c x with
    | true =>
      simp only [if_true, h3 q, ih, Res.bind_ok]
      rw [List.filter_cons_of_pos q, List.map_cons]
    | false =>
      rw [if_neg Bool.false_ne_true, ih, List.filter_cons_of_neg (by rw [q]; exact Bool.false_ne_true)]
/-- step by step -/
def iter {σ : Type} (f : σ → σ) : Nat → σ → σ
  | 0, s => s
  | n + 1, s => iter f n (f s)
/-- a while: m goes down -/
theorem while_rel {σ : Type} {b : P.Bx} {body : Sx} {step : σ → σ} {go : σ → Bool} {R : σ → Fv → Prop} {m : σ → Nat}
    (h : ∀ s e, R s e → b e = .ok (go s) ∧ (go s = true → m (step s) < m s ∧ ∃ e2, (body e = .nx e2 ∨ body e = .ct e2) ∧ R (step s) e2)) : ∀ (n : Nat) (s : σ) (env : Fv), R s env → m s < n →
    ∃ k e, S.while_ b body n env = .nx e ∧ R (iter step k s) e ∧ go (iter step k s) = false
  | 0, s, env, _, hm => absurd hm (Nat.not_lt_zero _)
  | n + 1, s, env, r, hm => by
    obtain ⟨h1, h2⟩ := h s env r
    have e0 : S.while_ b body (n + 1) env = (b env).thenX env fun b' => if b' = true then (match body env with
      | .nx env => S.while_ b body n env
      | .ct env => S.while_ b body n env
      | .br env => .nx env
      | r => r) else .nx env := rfl
    rw [e0, h1, Res.thenX_ok]
    cases q : go s with
    | false => exact ⟨0, env, by rw [if_neg Bool.false_ne_true], r, q⟩
    | true =>
      obtain ⟨h3, e2, h4, h5⟩ := h2 q
      obtain ⟨k, e, w1, w2, w3⟩ := while_rel h n (step s) e2 h5 (by omega)
      refine ⟨k + 1, e, ?_, w2, w3⟩
      rw [if_pos rfl]
      rcases h4 with h4 | h4
      · simp only [h4]; exact w1
      · simp only [h4]; exact w1
end Py

set_option Elab.async false
set_option linter.all false
set_option maxRecDepth 100000
set_option maxHeartbeats 4000000
namespace Py
open PySem L2

/-! ### the operators at told trees -/
section
variable {i j : Int} {g g' : Option Tag} {ts us : List T} {b c : Bool} {x y : T} {d n : Nat} {env : Fv} {o : Option Sl}
@[simp] theorem add_int : T.add (.int i) (.int j) = some (.int (i + j)) := nrfl rfl
@[simp] theorem sub_int : T.sub (.int i) (.int j) = some (.int (i - j)) := nrfl rfl
theorem mul_int (h : mfit i j = true) : T.mul (.int i) (.int j) = some (.int (i * j)) := if_pos h
theorem mod_int (h : 0 < j) : T.mod (.int i) (.int j) = some (.int (i % j)) := if_pos (decide_eq_true h)
theorem fdiv_int (h : 0 < j) (h2 : dfit j = true) : T.fdiv (.int i) (.int j) = some (.int (i / j)) := if_pos (by rw [decide_eq_true h, h2]; rfl)
theorem shl_int (h : 0 ≤ j) (h2 : j ≤ 1000000) (h3 : sfit i = true) : T.shl (.int i) (.int j) = some (.int (i * 2 ^ j.toNat)) := if_pos (by rw [decide_eq_true h, decide_eq_true h2, h3]; rfl)
theorem shl_one (h : 0 ≤ j) (h2 : j ≤ 1000000) : T.shl (.int 1) (.int j) = some (.int (2 ^ j.toNat)) := by rw [shl_int h h2 rfl, Int.one_mul]
theorem shr_int (h : 0 ≤ j) : T.shr (.int i) (.int j) = some (.int (i / 2 ^ j.toNat)) := if_pos (decide_eq_true h)
@[simp] theorem band_int : T.band (.int i) (.int j) = some (.int (Builtin.bitAnd i j)) := nrfl rfl
@[simp] theorem bor_int : T.bor (.int i) (.int j) = some (.int (Builtin.bitOr i j)) := nrfl rfl
@[simp] theorem inv_int : T.inv (.int i) = some (.int (Builtin.bitNot i)) := nrfl rfl
@[simp] theorem neg_int : T.neg (.int i) = some (.int (-i)) := nrfl rfl
@[simp] theorem eq_int : T.eq (.int i) (.int j) = some (.bl (decide (i = j))) := by
  show (if (true && true) = true then some (T.bl (i == j)) else none) = _
  rfl
@[simp] theorem ne_int : T.ne (.int i) (.int j) = some (.bl (!decide (i = j))) := by
  show (if (true && true) = true then some (T.bl (!(i == j))) else none) = _
  rfl
@[simp] theorem eq_bl : T.eq (.bl b) (.bl c) = some (.bl (b == c)) := nrfl rfl
@[simp] theorem ne_bl : T.ne (.bl b) (.bl c) = some (.bl (b != c)) := nrfl rfl
@[simp] theorem lt_int : T.lt (.int i) (.int j) = some (.bl (decide (i < j))) := nrfl rfl
@[simp] theorem le_int : T.le (.int i) (.int j) = some (.bl (decide (i ≤ j))) := nrfl rfl
@[simp] theorem gt_int : T.gt (.int i) (.int j) = some (.bl (decide (j < i))) := nrfl rfl
@[simp] theorem ge_int : T.ge (.int i) (.int j) = some (.bl (decide (j ≤ i))) := nrfl rfl
@[simp] theorem boo_bl : T.boo (.bl b) = some b := nrfl rfl
@[simp] theorem items_lst : T.items (.lst g ts) = some ts := nrfl rfl
@[simp] theorem items_ro : T.items (.ro ts) = some ts := nrfl rfl
@[simp] theorem items_tup : T.items (.tup ts) = some ts := nrfl rfl
@[simp] theorem B_int : B.int [.int i] = some (.int i) := nrfl rfl
@[simp] theorem B_intb : B.int [.bl b] = some (.int (if b then 1 else 0)) := nrfl rfl
@[simp] theorem B_len : B.len [.lst g ts] = some (.int ts.length) := nrfl rfl
@[simp] theorem B_lenR : B.len [.ro ts] = some (.int ts.length) := nrfl rfl
@[simp] theorem B_lenT : B.len [.tup ts] = some (.int ts.length) := nrfl rfl
@[simp] theorem tru_bl : T.tru (.bl b) = some b := nrfl rfl
theorem ixN_nat {n k : Nat} (h : k < n) : ixN n (k : Int) = some k := by
  unfold ixN
  rw [if_pos (Int.natCast_nonneg k), if_pos (by omega)]
  rfl
theorem atI_nat {α : Type} {xs : List α} {k : Nat} (h : k < xs.length) : atI xs (k : Int) = xs[k]? := by
  unfold atI
  rw [ixN_nat h]
  rfl
theorem atI_int {α : Type} {xs : List α} (h0 : 0 ≤ i) (h : i < xs.length) : atI xs i = xs[i.toNat]? := by
  obtain ⟨k, rfl⟩ := Int.eq_ofNat_of_zero_le h0
  rw [atI_nat (by omega)]
  rfl
@[simp] theorem ix_lst : T.ix (.lst g ts) (.int i) = atI ts i := nrfl rfl
@[simp] theorem ix_ro : T.ix (.ro ts) (.int i) = atI ts i := nrfl rfl
@[simp] theorem ix_tup : T.ix (.tup ts) (.int i) = atI ts i := nrfl rfl
theorem lfit_ok {n : Nat} (h : n ≤ 1000000) : lfit n = true := lfit_of (by omega)
theorem rfit_ok (h0 : -1000000000 ≤ i) (h : i ≤ 1000000000) : rfit i = true := by
  unfold rfit
  rw [decide_eq_true (by omega : -(2 ^ 62) ≤ i), decide_eq_true (by omega : i < 2 ^ 62)]
  rfl
@[simp] theorem cat_lst (h : lfit (ts.length + us.length) = true) : T.catN (.lst g ts) (.lst g' us) = some (ts ++ us) := if_pos h
theorem addL (h : lfit (ts.length + us.length) = true) : T.add (.lst g ts) (.lst g' us) = some (.lst none (ts ++ us)) := if_pos h
end
/-- the frame of a call -/
theorem run_eq {n : Nat} {s : Sx} {ts : List T} : run n s ts = fin (s (ent n ts)) := rfl

/-! ### the cells and digits that each law draws -/
/-- digits within sizes -/
def Digs : List Int → List Int → Prop
  | [], [] => True
  | x :: xs, s :: ss => (0 ≤ x ∧ x < s) ∧ Digs xs ss
  | _, _ => False
theorem Digs.snoc : ∀ {xs ss : List Int} {x s : Int}, Digs xs ss → 0 ≤ x → x < s → Digs (xs ++ [x]) (ss ++ [s])
  | [], [], _, _, _, h1, h2 => ⟨⟨h1, h2⟩, trivial⟩
  | _ :: _, _ :: _, _, _, h, h1, h2 => ⟨h.1, Digs.snoc h.2 h1 h2⟩
theorem Digs.length : ∀ {xs ss : List Int}, Digs xs ss → xs.length = ss.length
  | [], [], _ => rfl
  | _ :: _, _ :: _, h => by rw [List.length_cons, List.length_cons, Digs.length h.2]
namespace LL
def S_digitsG (pw : T → T → Option T) (d : Nat) : Sx :=
  S.seq (S.new 2 (lfits P.nil))
  (S.seq (S.asg 3 (P.bin T.mod (P.call (fun ts => .of (B.int ts)) (P.cons (P.var d 0) P.nil)) (P.bin T.mul (P.bin T.mul (P.bin pw (P.c (.int 10)) (P.c (.int 60))) (P.bin pw (P.c (.int 10)) (P.c (.int 60)))) (P.bin pw (P.c (.int 10)) (P.c (.int 60))))))
  (S.seq (S.ite (P.tb (P.bin T.ge (P.var d 3) (P.bin pw (P.c (.int 10)) (P.c (.int 18)))))
  (S.seq (S.asg 3 (P.bin T.sub (P.var d 3) (P.bin pw (P.c (.int 10)) (P.c (.int 18)))))
  (S.seq (S.for_ (S.tName 4) (P.items (P.var d 1))
  (S.seq (S.app 2 (P.bin T.mod (P.call (fun ts => .of (B.int ts)) (P.cons (P.var d 3) P.nil)) (P.var d 4)))
  (S.asg 3 (P.bin T.fdiv (P.call (fun ts => .of (B.int ts)) (P.cons (P.var d 3) P.nil)) (P.var d 4)))))
  (S.frz 2 (S.ret (P.var d 2)))))
  S.skip)
  (S.seq (S.asg 5 (P.bin T.mod (P.call (fun ts => .of (B.int ts)) (P.cons (P.var d 3) P.nil)) (P.c (.int 2147483629))))
  (S.seq (S.forX (S.tName 6) (P.rng1 (P.cons (P.call (fun ts => .of (B.len ts)) (P.cons (P.var d 1) P.nil)) P.nil))
  (S.seq (S.asg 5 (P.bin T.mod (P.call (fun ts => .of (B.int ts)) (P.cons (P.bin T.add (P.bin T.add (P.bin T.mul (P.var d 5) (P.c (.int 48271))) (P.bin T.mul (P.c (.int 974711)) (P.var d 6))) (P.c (.int 12345))) P.nil)) (P.c (.int 2147483647))))
  (S.seq (S.asg 7 (P.bin T.mod (P.call (fun ts => .of (B.int ts)) (P.cons (P.bin T.mul (P.var d 5) (P.bin T.add (P.bin T.fdiv (P.var d 5) (P.c (.int 65537))) (P.c (.int 3)))) P.nil)) (P.c (.int 2147483629))))
  (S.app 2 (P.bin T.mod (P.call (fun ts => .of (B.int ts)) (P.cons (P.bin T.fdiv (P.var d 7) (P.c (.int 19))) P.nil)) (P.bin T.ix (P.var d 1) (P.var d 6)))))))
  (S.frz 2 (S.ret (P.var d 2)))))))
def S_digits (d : Nat) : Sx := S_digitsG T.pow d
def S_cell (d : Nat) : Sx :=
  S.seq (S.ite (P.tb (P.bin T.lt (P.var d 1) (P.call (fun ts => .of (B.len ts)) (P.cons (P.var d 0) P.nil))))
  (S.ret (P.call (fun ts => .of (B.int ts)) (P.cons (P.bin T.ix (P.var d 0) (P.var d 1)) P.nil)))
  S.skip)
  (S.seq (S.asg 2 (P.c (.int 7)))
  (S.seq (S.for_ (S.tName 3) (P.items (P.var d 0))
  (S.asg 2 (P.bin T.mod (P.call (fun ts => .of (B.int ts)) (P.cons (P.bin T.add (P.bin T.mul (P.var d 2) (P.c (.int 33))) (P.bin T.mod (P.call (fun ts => .of (B.int ts)) (P.cons (P.var d 3) P.nil)) (P.c (.int 999983)))) P.nil)) (P.c (.int 999983)))))
  (S.ret (P.bin T.mod (P.call (fun ts => .of (B.int ts)) (P.cons (P.bin T.mul (P.bin T.mul (P.bin T.add (P.var d 2) (P.c (.int 11))) (P.bin T.add (P.var d 1) (P.c (.int 5)))) (P.c (.int 48271))) P.nil)) (P.c (.int 2147483647))))))
end LL
set_option exponentiation.threshold 100000
theorem mul_small {i j : Int} (h1 : i.natAbs < 2 ^ 1000) (h2 : j.natAbs < 2 ^ 1000) : T.mul (.int i) (.int j) = some (.int (i * j)) := mul_int (mfit_of 1000 1000 h1 h2)
theorem nat_lt_big {i : Int} (h1 : -1000000000000000000 ≤ i) (h2 : i ≤ 1000000000000000000) : i.natAbs < 2 ^ 1000 := Nat.lt_of_le_of_lt (show i.natAbs ≤ 1000000000000000000 by omega) (by decide)
/-- a cell: some whole number -/
theorem cell_ev (d : Nat) (ns : List Int) (k : Nat) (hk : k ≤ 1000000) : ∃ c : Int, run 4 (LL.S_cell d) [.ro (ns.map T.int), .int k] = .ok (.int c) := by
  have e0 : ent 4 [.ro (ns.map T.int), .int k] = [some (.fz (.ro (ns.map T.int))), some (.fz (.int k)), none, none] := rfl
  unfold run LL.S_cell
  rw [e0]
  by_cases h : k < ns.length
  · have e1 : atI (ns.map T.int) (k : Int) = some (.int ns[k]) := by
      rw [atI_nat (by simpa using h), List.getElem?_map, List.getElem?_eq_getElem h]
      rfl
    exact ⟨ns[k], by simp [e1, h]⟩
  · have hf := turns_fold (tg := S.tName 3) (body := S.asg 2 (P.bin T.mod (P.call (fun ts => .of (B.int ts)) (P.cons (P.bin T.add (P.bin T.mul (P.var d 2) (P.c (.int 33))) (P.bin T.mod (P.call (fun ts => .of (B.int ts)) (P.cons (P.var d 3) P.nil)) (P.c (.int 999983)))) P.nil)) (P.c (.int 999983)))) (g := T.int)
      (step := fun (s : Int) (x : Int) => (s * 33 + x % 999983) % 999983) (R := fun s e => (0 ≤ s ∧ s < 999983) ∧ ∃ o, e = [some (.fz (.ro (ns.map T.int))), some (.fz (.int k)), some (.fz (.int s)), o]) ns 7 [some (.fz (.ro (ns.map T.int))), some (.fz (.int k)), some (.fz (.int 7)), none] (by
        rintro s x e - ⟨⟨s1, s2⟩, o, rfl⟩
        refine ⟨_, _, rfl, .inl ?_, ⟨by omega, by omega⟩, some (.fz (.int x)), rfl⟩
        simp [mul_small (nat_lt_big (i := s) (by omega) (by omega)) (nat_lt_big (i := 33) (by omega) (by omega)), mod_int]) ⟨by omega, none, rfl⟩
    obtain ⟨e, h1, ⟨h3, h4⟩, o, rfl⟩ := hf
    generalize ns.foldl (fun (s : Int) (x : Int) => (s * 33 + x % 999983) % 999983) 7 = s at *
    have hc : ¬ ((k : Int) < ns.length) := by omega
    refine ⟨((s + 11) * (k + 5) * 48271) % 2147483647, ?_⟩
    have m1 : T.mul (.int (s + 11)) (.int ((k : Int) + 5)) = some (.int ((s + 11) * (k + 5))) := mul_small (nat_lt_big (by omega) (by omega)) (nat_lt_big (by omega) (by omega))
    have b1 : 0 ≤ (s + 11) * ((k : Int) + 5) := Int.mul_nonneg (by omega) (by omega)
    have b2 : (s + 11) * ((k : Int) + 5) ≤ 1000000 * 1000005 := Int.mul_le_mul (by omega) (by omega) (by omega) (by omega)
    have m2 : T.mul (.int ((s + 11) * (k + 5))) (.int 48271) = some (.int ((s + 11) * (k + 5) * 48271)) := mul_small (nat_lt_big (by omega) (by omega)) (nat_lt_big (by omega) (by omega))
    simp [hc, h1, m1, m2, mod_int]
theorem tens : ∃ a b k e : Int, T.pow (.int 10) (.int 60) = some (.int a) ∧ T.mul (.int a) (.int a) = some (.int b) ∧ T.mul (.int b) (.int a) = some (.int k) ∧ T.pow (.int 10) (.int 18) = some (.int e) ∧ 0 < k :=
  ⟨10 ^ 60, 10 ^ 120, 10 ^ 180, 10 ^ 18, rfl, mul_int (by decide), mul_int (by decide), rfl, by decide⟩
theorem hide_set {e : Fv} {i : Nat} {t : T} {o : Option Sl} (h : e[i]? = some o) : (hide (e.set i (some (.fz t))))[i]? = some (some (.fz t)) := by
  unfold hide
  rw [List.getElem?_map, List.getElem?_set_self (List.getElem?_eq_some_iff.mp h).1]
  rfl
theorem range_pre {n x : Nat} {p post : List Nat} (h : List.range n = p ++ x :: post) : x = p.length ∧ x < n := by
  have e1 : (List.range n)[p.length]? = some x := by rw [h]; simp
  have hlt : p.length < n := by
    have := congrArg List.length h
    simp at this
    omega
  rw [List.getElem?_range hlt] at e1
  cases e1
  exact ⟨rfl, hlt⟩
theorem if_same {α : Type} {c : Prop} [Decidable c] {x : α} : (if c then x else x) = x := by split <;> rfl
/-- the loop of the first branch -/
theorem digitsA (d : Nat) (t0 t1 o5 o6 o7 : Option Sl) (rest : Int) (sz : List Int) (hs : ∀ s ∈ sz, 0 < s ∧ s < 2 ^ 1000) (hl : sz.length ≤ 1000) : ∃ (xs : List Int) (e : Fv), Digs xs sz ∧ e[2]? = some (some (.ol (xs.map T.int))) ∧
    S.turns (S.tName 4) (S.seq (S.app 2 (P.bin T.mod (P.call (fun ts => .of (B.int ts)) (P.cons (P.var d 3) P.nil)) (P.var d 4))) (S.asg 3 (P.bin T.fdiv (P.call (fun ts => .of (B.int ts)) (P.cons (P.var d 3) P.nil)) (P.var d 4)))) (sz.map T.int)
      [t0, t1, some (.ol []), some (.fz (.int rest)), none, o5, o6, o7] = .nx e := by
  have hf := turns_pre (tg := S.tName 4) (body := S.seq (S.app 2 (P.bin T.mod (P.call (fun ts => .of (B.int ts)) (P.cons (P.var d 3) P.nil)) (P.var d 4))) (S.asg 3 (P.bin T.fdiv (P.call (fun ts => .of (B.int ts)) (P.cons (P.var d 3) P.nil)) (P.var d 4))))
    (g := T.int) (R := fun p e => ∃ (xs : List Int) (r : Int) (o : Option Sl), Digs xs p ∧ e = [t0, t1, some (.ol (xs.map T.int)), some (.fz (.int r)), o, o5, o6, o7]) sz [] [t0, t1, some (.ol []), some (.fz (.int rest)), none, o5, o6, o7] (by
      rintro p x post e hp ⟨xs, r, o, hd, rfl⟩
      have hp' : sz = p ++ x :: post := hp
      obtain ⟨h1, h2⟩ := hs x (by rw [hp']; simp)
      have hlx : xs.length < sizeLine := by
        have : xs.length ≤ sz.length := by rw [hd.length, hp']; simp
        exact Nat.lt_of_le_of_lt (Nat.le_trans this hl) (by decide)
      refine ⟨_, _, rfl, .inl ?_, xs ++ [r % x], r / x, some (.fz (.int x)), hd.snoc (Int.emod_nonneg _ (by omega)) (Int.emod_lt_of_pos _ h1), rfl⟩
      have hdf : dfit x = true := dfit_of 1000 (by omega)
      simp [mod_int h1, fdiv_int h1 hdf, hlx]) ⟨[], rest, none, trivial, rfl⟩
  obtain ⟨e, h1, xs, r, o, h2, rfl⟩ := hf
  exact ⟨xs, _, h2, rfl, h1⟩
/-- the loop of the second branch -/
theorem digitsB (d : Nat) (t0 : Option Sl) (g : Option Tag) (seed rest : Int) (sz : List Int) (h0 : 0 ≤ seed) (h1 : seed < 2147483648) (hs : ∀ s ∈ sz, 0 < s ∧ s < 2 ^ 1000) (hl : sz.length ≤ 1000) : ∃ (xs : List Int) (e : Fv), Digs xs sz ∧ e[2]? = some (some (.ol (xs.map T.int))) ∧
    S.turns (S.tName 6) (S.seq (S.asg 5 (P.bin T.mod (P.call (fun ts => .of (B.int ts)) (P.cons (P.bin T.add (P.bin T.add (P.bin T.mul (P.var d 5) (P.c (.int 48271))) (P.bin T.mul (P.c (.int 974711)) (P.var d 6))) (P.c (.int 12345))) P.nil)) (P.c (.int 2147483647))))
      (S.seq (S.asg 7 (P.bin T.mod (P.call (fun ts => .of (B.int ts)) (P.cons (P.bin T.mul (P.var d 5) (P.bin T.add (P.bin T.fdiv (P.var d 5) (P.c (.int 65537))) (P.c (.int 3)))) P.nil)) (P.c (.int 2147483629))))
      (S.app 2 (P.bin T.mod (P.call (fun ts => .of (B.int ts)) (P.cons (P.bin T.fdiv (P.var d 7) (P.c (.int 19))) P.nil)) (P.bin T.ix (P.var d 1) (P.var d 6)))))) (rng 0 sz.length)
      [t0, some (.fz (.lst g (sz.map T.int))), some (.ol []), some (.fz (.int rest)), none, some (.fz (.int seed)), none, none] = .nx e := by
  have hf := turns_pre (tg := S.tName 6) (body := S.seq (S.asg 5 (P.bin T.mod (P.call (fun ts => .of (B.int ts)) (P.cons (P.bin T.add (P.bin T.add (P.bin T.mul (P.var d 5) (P.c (.int 48271))) (P.bin T.mul (P.c (.int 974711)) (P.var d 6))) (P.c (.int 12345))) P.nil)) (P.c (.int 2147483647))))
      (S.seq (S.asg 7 (P.bin T.mod (P.call (fun ts => .of (B.int ts)) (P.cons (P.bin T.mul (P.var d 5) (P.bin T.add (P.bin T.fdiv (P.var d 5) (P.c (.int 65537))) (P.c (.int 3)))) P.nil)) (P.c (.int 2147483629))))
      (S.app 2 (P.bin T.mod (P.call (fun ts => .of (B.int ts)) (P.cons (P.bin T.fdiv (P.var d 7) (P.c (.int 19))) P.nil)) (P.bin T.ix (P.var d 1) (P.var d 6))))))
    (g := fun (k : Nat) => T.int (0 + (k : Int))) (R := fun p e => ∃ (xs : List Int) (s : Int) (o6 o7 : Option Sl), Digs xs (sz.take p.length) ∧ (0 ≤ s ∧ s < 2147483648) ∧ e = [t0, some (.fz (.lst g (sz.map T.int))), some (.ol (xs.map T.int)), some (.fz (.int rest)), none, some (.fz (.int s)), o6, o7]) (List.range sz.length) []
      [t0, some (.fz (.lst g (sz.map T.int))), some (.ol []), some (.fz (.int rest)), none, some (.fz (.int seed)), none, none] (by
      rintro p x post e hp ⟨xs, s, o6, o7, hd, ⟨s0, s1⟩, rfl⟩
      have hp' : List.range sz.length = p ++ x :: post := hp
      have hx := range_pre hp'
      obtain ⟨hx1, hx2⟩ := hx
      obtain ⟨k1, k2⟩ := hs sz[x] (List.getElem_mem hx2)
      have hlx : xs.length < sizeLine := by
        have : xs.length ≤ sz.length := by rw [hd.length, List.length_take]; omega
        exact Nat.lt_of_le_of_lt (Nat.le_trans this hl) (by decide)
      have ei : atI (sz.map T.int) ((x : Nat) : Int) = some (.int sz[x]) := by
        rw [atI_nat (by simpa using hx2), List.getElem?_map, List.getElem?_eq_getElem hx2]
        rfl
      have m1 : T.mul (.int s) (.int 48271) = some (.int (s * 48271)) := mul_small (nat_lt_big (by omega) (by omega)) (nat_lt_big (by omega) (by omega))
      have m2 : T.mul (.int 974711) (.int (x : Int)) = some (.int (974711 * (x : Int))) := mul_small (nat_lt_big (by omega) (by omega)) (nat_lt_big (by omega) (by omega))
      have b0 := Int.emod_nonneg (s * 48271 + 974711 * (x : Int) + 12345) (b := 2147483647) (by omega)
      have b1 := Int.emod_lt_of_pos (s * 48271 + 974711 * (x : Int) + 12345) (b := 2147483647) (by omega)
      have m3 : T.mul (.int ((s * 48271 + 974711 * (x : Int) + 12345) % 2147483647)) (.int ((s * 48271 + 974711 * (x : Int) + 12345) % 2147483647 / 65537 + 3)) = some (.int ((s * 48271 + 974711 * (x : Int) + 12345) % 2147483647 * ((s * 48271 + 974711 * (x : Int) + 12345) % 2147483647 / 65537 + 3))) := by
        generalize (s * 48271 + 974711 * (x : Int) + 12345) % 2147483647 = z at b0 b1
        exact mul_small (nat_lt_big (by omega) (by omega)) (nat_lt_big (by omega) (by omega))
      have d1 : dfit 65537 = true := rfl
      have d2 : dfit 19 = true := rfl
      refine ⟨_, _, rfl, .inl ?_, xs ++ [((s * 48271 + 974711 * (x : Int) + 12345) % 2147483647 * ((s * 48271 + 974711 * (x : Int) + 12345) % 2147483647 / 65537 + 3)) % 2147483629 / 19 % sz[x]], (s * 48271 + 974711 * (x : Int) + 12345) % 2147483647, some (.fz (.int (x : Int))), some (.fz (.int (((s * 48271 + 974711 * (x : Int) + 12345) % 2147483647 * ((s * 48271 + 974711 * (x : Int) + 12345) % 2147483647 / 65537 + 3)) % 2147483629))), ?_, ⟨b0, by omega⟩, rfl⟩
      · simp [mod_int, fdiv_int, m1, m2, m3, d1, d2, ei, k1, hlx]
      · rw [List.length_append, List.length_singleton, List.take_add_one, ← hx1, List.getElem?_eq_getElem hx2]
        exact (hx1 ▸ hd).snoc (Int.emod_nonneg _ (by omega)) (Int.emod_lt_of_pos _ k1)) ⟨[], seed, none, none, by simp [Digs], ⟨h0, h1⟩, rfl⟩
  obtain ⟨e, h2, xs, r, o, o', h3, _, rfl⟩ := hf
  refine ⟨xs, _, ?_, rfl, h2⟩
  simpa using h3
theorem digits_gen {pw : T → T → Option T} {a b k z : Int} (p1 : pw (.int 10) (.int 60) = some (.int a)) (p2 : T.mul (.int a) (.int a) = some (.int b)) (p3 : T.mul (.int b) (.int a) = some (.int k)) (p4 : pw (.int 10) (.int 18) = some (.int z)) (kpos : 0 < k) (d : Nat) (c : Int) (g : Option Tag) (sz : List Int) (hs : ∀ s ∈ sz, 0 < s ∧ s < 2 ^ 1000) (hl : sz.length ≤ 1000) : ∃ xs : List Int, Digs xs sz ∧ run 8 (LL.S_digitsG pw d) [.int c, .lst g (sz.map T.int)] = .ok (.lst none (xs.map T.int)) := by
  have e0 : ent 8 [.int c, .lst g (sz.map T.int)] = [some (.fz (.int c)), some (.fz (.lst g (sz.map T.int))), none, none, none, none, none, none] := rfl
  unfold run LL.S_digitsG
  rw [e0]
  by_cases h : z ≤ c % k
  · obtain ⟨xs, e, h1, h2, h3⟩ := digitsA d (some (.fz (.int c))) (some (.fz (.lst g (sz.map T.int)))) none none none (c % k - z) sz hs hl
    refine ⟨xs, h1, ?_⟩
    simp [p1, p2, p3, p4, mod_int kpos, h, lfit_ok, h3, h2, hide_set h2]
  · have q0 : 0 ≤ c % k % 2147483629 := Int.emod_nonneg (c % k) (by decide)
    have q1 : c % k % 2147483629 < 2147483629 := Int.emod_lt_of_pos (c % k) (by decide)
    have q2 : c % k % 2147483629 < 2147483648 := Int.lt_trans q1 (by decide)
    obtain ⟨xs, e, h1, h2, h3⟩ := digitsB d (some (.fz (.int c))) g (c % k % 2147483629) (c % k) sz q0 q2 hs hl
    refine ⟨xs, h1, ?_⟩
    have hr : rfit (sz.length : Int) = true := rfit_ok (by omega) (by omega)
    simp [p1, p2, p3, p4, mod_int, kpos, h, lfit_ok, hr, h3, h2, hide_set h2]
theorem digits_ev (d : Nat) (c : Int) (g : Option Tag) (sz : List Int) (hs : ∀ s ∈ sz, 0 < s ∧ s < 2 ^ 1000) (hl : sz.length ≤ 1000) : ∃ xs : List Int, Digs xs sz ∧ run 8 (LL.S_digits d) [.int c, .lst g (sz.map T.int)] = .ok (.lst none (xs.map T.int)) := by
  obtain ⟨a, b, k, z, p1, p2, p3, p4, kpos⟩ := tens
  exact digits_gen p1 p2 p3 p4 kpos d c g sz hs hl
end Py

set_option Elab.async false
set_option linter.all false
set_option maxRecDepth 100000
set_option maxHeartbeats 4000000
namespace Py
open PySem L2

/-! ### isinstance, errors, frames at entry -/
section
variable {α : Type} {i : Int} {b : Bool} {s : Str} {g : Option Tag} {ts : List T} {n : Nat} {env : Fv}
theorem ki1 : kitB "int" "int" = some true := by decide +kernel
theorem ki2 : kitB "int" "bool" = some false := by decide +kernel
theorem ki3 : kitB "int" "str" = some false := by decide +kernel
theorem ki4 : kitB "int" "list" = some false := by decide +kernel
theorem ki5 : kitB "int" "tuple" = some false := by decide +kernel
theorem kb1 : kitB "bool" "int" = some true := by decide +kernel
theorem kb2 : kitB "bool" "bool" = some true := by decide +kernel
theorem kb3 : kitB "bool" "str" = some false := by decide +kernel
theorem kb4 : kitB "bool" "list" = some false := by decide +kernel
theorem kb5 : kitB "bool" "tuple" = some false := by decide +kernel
theorem ks1 : kitB "str" "int" = some false := by decide +kernel
theorem ks2 : kitB "str" "bool" = some false := by decide +kernel
theorem ks3 : kitB "str" "str" = some true := by decide +kernel
theorem ks4 : kitB "str" "list" = some false := by decide +kernel
theorem ks5 : kitB "str" "tuple" = some false := by decide +kernel
theorem kl1 : kitB "list" "int" = some false := by decide +kernel
theorem kl2 : kitB "list" "bool" = some false := by decide +kernel
theorem kl3 : kitB "list" "str" = some false := by decide +kernel
theorem kl4 : kitB "list" "list" = some true := by decide +kernel
theorem kl5 : kitB "list" "tuple" = some false := by decide +kernel
theorem kt1 : kitB "tuple" "int" = some false := by decide +kernel
theorem kt2 : kitB "tuple" "bool" = some false := by decide +kernel
theorem kt3 : kitB "tuple" "str" = some false := by decide +kernel
theorem kt4 : kitB "tuple" "list" = some false := by decide +kernel
theorem kt5 : kitB "tuple" "tuple" = some true := by decide +kernel
theorem kn1 : kitB "NoneType" "int" = some false := by decide +kernel
theorem kn2 : kitB "NoneType" "bool" = some false := by decide +kernel
theorem kn3 : kitB "NoneType" "str" = some false := by decide +kernel
theorem kn4 : kitB "NoneType" "list" = some false := by decide +kernel
theorem kn5 : kitB "NoneType" "tuple" = some false := by decide +kernel
@[simp] theorem isi_int {c : String} : T.isi c (.int i) = (kitB "int" c).map .bl := nrfl rfl
@[simp] theorem isi_bl {c : String} : T.isi c (.bl b) = (kitB "bool" c).map .bl := nrfl rfl
@[simp] theorem isi_str {c : String} : T.isi c (.str s) = (kitB "str" c).map .bl := nrfl rfl
@[simp] theorem isi_non {c : String} : T.isi c .non = (kitB "NoneType" c).map .bl := nrfl rfl
@[simp] theorem isi_lst {c : String} : T.isi c (.lst g ts) = (kitB "list" c).map .bl := nrfl rfl
@[simp] theorem isi_tup {c : String} : T.isi c (.tup ts) = (kitB "tuple" c).map .bl := nrfl rfl
theorem isi_tab : kitB "int" "int" = some true ∧ kitB "int" "bool" = some false ∧ kitB "int" "str" = some false ∧ kitB "int" "list" = some false ∧ kitB "int" "tuple" = some false ∧ kitB "bool" "int" = some true ∧ kitB "bool" "bool" = some true ∧ kitB "bool" "str" = some false ∧ kitB "bool" "list" = some false ∧ kitB "bool" "tuple" = some false ∧
    kitB "str" "int" = some false ∧ kitB "str" "bool" = some false ∧ kitB "str" "str" = some true ∧ kitB "str" "list" = some false ∧ kitB "str" "tuple" = some false ∧ kitB "list" "int" = some false ∧ kitB "list" "bool" = some false ∧ kitB "list" "str" = some false ∧ kitB "list" "list" = some true ∧ kitB "list" "tuple" = some false ∧
    kitB "tuple" "int" = some false ∧ kitB "tuple" "bool" = some false ∧ kitB "tuple" "str" = some false ∧ kitB "tuple" "list" = some false ∧ kitB "tuple" "tuple" = some true ∧ kitB "NoneType" "int" = some false ∧ kitB "NoneType" "bool" = some false ∧ kitB "NoneType" "str" = some false ∧ kitB "NoneType" "list" = some false ∧ kitB "NoneType" "tuple" = some false :=
  ⟨ki1, ki2, ki3, ki4, ki5, kb1, kb2, kb3, kb4, kb5, ks1, ks2, ks3, ks4, ks5, kl1, kl2, kl3, kl4, kl5, kt1, kt2, kt3, kt4, kt5, kn1, kn2, kn3, kn4, kn5⟩
theorem ent_eq : ent n ts = ts.map (fun t => some (.fz t)) ++ List.replicate (n - ts.length) none := nrfl rfl
@[simp] theorem ev_raise {c : Nat} {ns : List Str} {a : P.Ax} : S.raise_ c ns a env = (a (hide env)).then_ env fun ts => if ts.length = ns.length ∧ ts.length ≤ 1000 then .er ⟨c, ns, ts.reverse⟩ env else .stuck := nrfl rfl
def tryK (tk : Nat → Option Bool) (i : Nat) (u : Sx) : RS → RS
  | .er e env1 => (match tk e.c with
    | some true => if i < env1.length then S.done i (u (env1.set i (some (.fz (.exn e.c e.ns e.ts))))) else .stuck
    | some false => .er e env1
    | none => .stuck)
  | r => r
@[simp] theorem ev_try {tk : Nat → Option Bool} {i : Nat} {s u : Sx} : S.try_ tk i s u env = tryK tk i u (s env) := nrfl rfl
@[simp] theorem tryK_nx {tk : Nat → Option Bool} {i : Nat} {u : Sx} : tryK tk i u (.nx env) = .nx env := nrfl rfl
@[simp] theorem tryK_rt {tk : Nat → Option Bool} {i : Nat} {u : Sx} {t : T} : tryK tk i u (.rt t) = .rt t := nrfl rfl
theorem tryK_er {tk : Nat → Option Bool} {i : Nat} {u : Sx} {e : Exn} (h : tk e.c = some true) : tryK tk i u (.er e env) = if i < env.length then S.done i (u (env.set i (some (.fz (.exn e.c e.ns e.ts))))) else .stuck := by
  simp only [tryK, h]
theorem tryK_erN {tk : Nat → Option Bool} {i : Nat} {u : Sx} {e : Exn} (h : tk e.c = some false) : tryK tk i u (.er e env) = .er e env := by
  simp only [tryK, h]
@[simp] theorem done_rt {i : Nat} {t : T} : S.done i (.rt t) = if noX t = true then .rt t else .stuck := nrfl rfl
@[simp] theorem done_nx {i : Nat} : S.done i (.nx env) = if (env.set i none).all noXS = true then .nx (env.set i none) else .stuck := nrfl rfl
@[simp] theorem done_ite {i : Nat} {z : Prop} [Decidable z] {x y : RS} : S.done i (if z then x else y) = if z then S.done i x else S.done i y := by split <;> rfl
@[simp] theorem isx_exn {tk : Nat → Option Bool} {c : Nat} {ns : List Str} : T.isx tk (.exn c ns ts) = (tk c).map .bl := nrfl rfl
@[simp] theorem xf_exn {c : Nat} {f : Str} {ns : List Str} : T.xf c f (.exn c ns ts) = (ns.zip ts).lookup f := nrfl (if_pos rfl)
theorem isA_bl {b c : Bool} : T.isA (.bl b) (.bl c) = some (.bl (decide (b = c) != false)) := nrfl rfl
theorem notA_bl {b c : Bool} : T.notA (.bl b) (.bl c) = some (.bl (decide (b = c) != true)) := nrfl rfl
end
end Py

set_option Elab.async false
set_option linter.all false
set_option maxRecDepth 100000
set_option maxHeartbeats 4000000
namespace Py
open PySem L2

/-! ### bits of whole numbers -/
abbrev nT (k : Nat) : T := .int (k : Int)
theorem bAnd (a b : Nat) : Builtin.bitAnd (a : Int) (b : Int) = ((a &&& b : Nat) : Int) := by
  unfold Builtin.bitAnd
  rw [decide_eq_true (Int.natCast_nonneg a), decide_eq_true (Int.natCast_nonneg b)]
  rfl
theorem bOr (a b : Nat) : Builtin.bitOr (a : Int) (b : Int) = ((a ||| b : Nat) : Int) := bitOr_nn (Int.natCast_nonneg a) (Int.natCast_nonneg b)
/-- a without b's bits -/
def nDiff (a b : Nat) : Nat := a - (a &&& b)
theorem bDiff (a b : Nat) : Builtin.bitAnd (a : Int) (Builtin.bitNot (b : Int)) = (nDiff a b : Int) := by
  have hb : ¬ (0 : Int) ≤ Builtin.bitNot (b : Int) := by
    show ¬ (0 : Int) ≤ -(b : Int) - 1
    omega
  have e : Builtin.bitNot (Builtin.bitNot (b : Int)) = (b : Int) := by
    show -(-(b : Int) - 1) - 1 = b
    omega
  unfold Builtin.bitAnd
  rw [decide_eq_true (Int.natCast_nonneg a), decide_eq_false hb]
  show (a : Int) - ((a &&& (Builtin.bitNot (Builtin.bitNot (b : Int))).toNat : Nat) : Int) = _
  rw [e]
  have h : a &&& b ≤ a := Nat.and_le_left
  unfold nDiff
  show (a : Int) - ((a &&& b : Nat) : Int) = _
  omega
/-- the number whose bits below n are p's -/
def sumB (p : Nat → Bool) : Nat → Nat
  | 0 => 0
  | n + 1 => sumB p n + if p n = true then 2 ^ n else 0
theorem sumB_succ (p : Nat → Bool) (n : Nat) : sumB p (n + 1) = sumB p n + if p n = true then 2 ^ n else 0 := rfl
theorem sumB_lt (p : Nat → Bool) : ∀ n, sumB p n < 2 ^ n
  | 0 => by simp [sumB]
  | n + 1 => by
    have := sumB_lt p n
    rw [Nat.pow_succ]
    unfold sumB
    split <;> omega
theorem sumB_bits (a : Nat) : ∀ n, sumB a.testBit n = a % 2 ^ n
  | 0 => by simp [sumB, Nat.mod_one]
  | n + 1 => by
    rw [Nat.pow_succ, Nat.mod_mul, ← sumB_bits a n, sumB_succ, Nat.testBit_eq_decide_div_mod_eq]
    have h := Nat.mod_lt (a / 2 ^ n) (y := 2) (by omega)
    by_cases c : a / 2 ^ n % 2 = 1
    · simp [c]
    · have c0 : a / 2 ^ n % 2 = 0 := by omega
      simp [c0]
theorem sumB_of {a n : Nat} (h : a < 2 ^ n) : sumB a.testBit n = a := by rw [sumB_bits, Nat.mod_eq_of_lt h]
theorem sumB_congr {p q : Nat → Bool} : ∀ {n : Nat}, (∀ k, k < n → p k = q k) → sumB p n = sumB q n
  | 0, _ => rfl
  | n + 1, h => by
    unfold sumB
    rw [sumB_congr (n := n) fun k hk => h k (by omega), h n (by omega)]
theorem sumB_split (p q : Nat → Bool) : ∀ n, sumB p n = sumB (fun k => p k && q k) n + sumB (fun k => p k && !q k) n
  | 0 => rfl
  | n + 1 => by
    unfold sumB
    rw [sumB_split p q n]
    cases p n <;> cases q n <;> simp <;> omega
theorem sumB_all : ∀ n, sumB (fun _ => true) n = 2 ^ n - 1
  | 0 => rfl
  | n + 1 => by
    unfold sumB
    rw [sumB_all n, Nat.pow_succ]
    have := Nat.two_pow_pos n
    simp
    omega
theorem sumB_zero {p : Nat → Bool} : ∀ {n : Nat}, sumB p n = 0 ↔ ∀ k, k < n → p k = false
  | 0 => by simp [sumB]
  | n + 1 => by
    unfold sumB
    have hp := Nat.two_pow_pos n
    constructor
    · intro h k hk
      have h1 : sumB p n = 0 := by omega
      have h2 : (if p n = true then 2 ^ n else 0) = 0 := by omega
      by_cases e : k = n
      · subst e
        cases q : p k
        · rfl
        · rw [q] at h2
          simp at h2
      · exact sumB_zero.mp h1 k (by omega)
    · intro h
      rw [sumB_zero.mpr fun k hk => h k (by omega), h n (by omega)]
      rfl
theorem sumB_full {p : Nat → Bool} {n : Nat} : sumB p n = 2 ^ n - 1 ↔ ∀ k, k < n → p k = true := by
  have h1 := sumB_split (fun _ => true) p n
  rw [sumB_all] at h1
  simp only [Bool.true_and] at h1
  have e : (sumB (fun k => p k) n) = sumB p n := rfl
  constructor
  · intro h k hk
    have h2 : sumB (fun k => !p k) n = 0 := by omega
    have := sumB_zero.mp h2 k hk
    simpa using this
  · intro h
    have h2 : sumB (fun k => !p k) n = 0 := sumB_zero.mpr fun k hk => by simp [h k hk]
    omega
theorem and_sum {a b n : Nat} (ha : a < 2 ^ n) : a &&& b = sumB (fun k => a.testBit k && b.testBit k) n := by
  rw [← sumB_of (Nat.lt_of_le_of_lt (Nat.and_le_left (n := a) (m := b)) ha)]
  exact sumB_congr fun k _ => Nat.testBit_and ..
theorem or_sum {a b n : Nat} (ha : a < 2 ^ n) (hb : b < 2 ^ n) : a ||| b = sumB (fun k => a.testBit k || b.testBit k) n := by
  rw [← sumB_of (Nat.or_lt_two_pow ha hb)]
  exact sumB_congr fun k _ => Nat.testBit_or ..
theorem diff_sum {a b n : Nat} (ha : a < 2 ^ n) : nDiff a b = sumB (fun k => a.testBit k && !b.testBit k) n := by
  unfold nDiff
  have h := sumB_split a.testBit b.testBit n
  rw [sumB_of ha, ← and_sum ha] at h
  omega
/-- the members of a lot -/
def mem (n a : Nat) : List Nat := (List.range n).filter a.testBit
theorem pow_sum (p : Nat → Bool) : ∀ n, (((List.range n).filter p).map fun k => 2 ^ k).sum = sumB p n
  | 0 => rfl
  | n + 1 => by
    rw [List.range_succ, List.filter_append, List.map_append, List.sum_append, pow_sum p n, sumB_succ]
    cases h : p n <;> simp [h]
end Py

set_option Elab.async false
set_option linter.all false
set_option maxRecDepth 100000
set_option maxHeartbeats 4000000
namespace Py
open PySem L2

/-! ### defs that many laws share -/
namespace LL
def S_bit (d : Nat) : Sx :=
  S.ret (P.bin T.mod (P.call (fun ts => .of (B.int ts)) (P.cons (P.bin T.fdiv (P.var d 0) (P.bin T.shl (P.c (.int 1)) (P.var d 1))) P.nil)) (P.c (.int 2)))
def f_bit (d : Nat) (ts : List T) : Res T := run 2 (S_bit d) ts
def S_members (d : Nat) : Sx :=
  S.ret (P.lc [2] (S.tName 2) (P.rng1 (P.cons (P.var d 1) P.nil)) (P.tb (P.bin T.eq (P.call (f_bit (d + 1)) (P.cons (P.var d 0) (P.cons (P.var d 2) P.nil))) (P.c (.int 1)))) (P.var d 2))
def f_members (d : Nat) (ts : List T) : Res T := run 3 (S_members d) ts
def S_whole (d : Nat) : Sx :=
  S.ret (P.andV (P.un (T.isi "int") (P.var d 0)) (P.notV (P.un (T.isi "bool") (P.var d 0))))
def f_whole (d : Nat) (ts : List T) : Res T := run 1 (S_whole d) ts
def S_lside (d : Nat) : Sx :=
  S.seq (S.ite (P.tb (P.bin T.eq (P.call (f_bit (d + 1)) (P.cons (P.var d 1) (P.cons (P.c (.int 0)) P.nil))) (P.c (.int 1))))
  (S.ret (P.bin T.sub (P.bin T.sub (P.bin T.shl (P.c (.int 1)) (P.var d 0)) (P.c (.int 1))) (P.var d 1)))
  S.skip)
  (S.ret (P.var d 1))
def f_lside (d : Nat) (ts : List T) : Res T := run 2 (S_lside d) ts
end LL
theorem bit_ev (d a k : Nat) (hk : k ≤ 1000) : LL.f_bit d [.int (a : Int), .int (k : Int)] = .ok (.int ((a.testBit k).toNat : Nat)) := by
  have hs := shl_one (j := (k : Int)) (by omega) (by omega)
  have hp : (0 : Int) < 2 ^ k := Int.pow_pos (by omega)
  have hd : dfit ((2 : Int) ^ k) = true := dfit_of (k + 1) (by
    have e : ((2 : Int) ^ k).natAbs = 2 ^ k := by rw [Int.natAbs_pow]; rfl
    rw [e]
    exact Nat.pow_lt_pow_right (by omega) (by omega)) (by omega) (by omega)
  have e : (a : Int) / 2 ^ k % 2 = (((a.testBit k).toNat : Nat) : Int) := by
    have e1 : (a : Int) / 2 ^ k % 2 = ((a / 2 ^ k % 2 : Nat) : Int) := by simp
    rw [e1, Nat.testBit_eq_decide_div_mod_eq]
    have h := Nat.mod_lt (a / 2 ^ k) (y := 2) (by omega)
    by_cases c : a / 2 ^ k % 2 = 1
    · simp [c]
    · have c0 : a / 2 ^ k % 2 = 0 := by omega
      simp [c0]
  simp [LL.f_bit, run_eq, ent_eq, LL.S_bit, hs, fdiv_int hp hd, mod_int, e]
theorem members_ev (d a n : Nat) (hn : n ≤ 1000) : LL.f_members d [.int (a : Int), .int (n : Int)] = .ok (.lst none ((mem n a).map nT)) := by
  have hr : rfit (n : Int) = true := rfit_ok (by omega) (by omega)
  have hl : (rng 0 n).length ≤ 1000000 := by simp [rng]; omega
  have e0 : rng 0 n = (List.range n).map fun (k : Nat) => T.int (0 + (k : Int)) := rfl
  have hc := turnsC_map (tg := S.tName 2) (b := P.tb (P.bin T.eq (P.call (LL.f_bit (d + 1)) (P.cons (P.var d 0) (P.cons (P.var d 2) P.nil))) (P.c (.int 1)))) (p := P.var d 2) (env := [some (.fz (.int (a : Int))), some (.fz (.int (n : Int))), none]) (g := fun (k : Nat) => T.int (0 + (k : Int))) (c := a.testBit) (f := nT) (List.range n) (fun k hk => by
    have hk' := List.mem_range.mp hk
    refine ⟨_, rfl, ?_, fun _ => ?_⟩
    · have hb := bit_ev (d + 1) a k (by omega)
      simp [hb]
      cases a.testBit k <;> simp
    · simp)
  rw [← e0] at hc
  simp [LL.f_members, run_eq, ent_eq, LL.S_members, hr, lfit_ok hl, hc, mem]
theorem whole_int (d : Nat) (i : Int) : LL.f_whole d [.int i] = .ok (.bl true) := by
  simp [LL.f_whole, run_eq, ent_eq, LL.S_whole, isi_tab]
theorem whole_bl (d : Nat) (b : Bool) : LL.f_whole d [.bl b] = .ok (.bl false) := by
  simp [LL.f_whole, run_eq, ent_eq, LL.S_whole, isi_tab]
theorem whole_str (d : Nat) (b : Str) : LL.f_whole d [.str b] = .ok (.bl false) := by
  simp [LL.f_whole, run_eq, ent_eq, LL.S_whole, isi_tab]
theorem whole_non (d : Nat) : LL.f_whole d [.non] = .ok (.bl false) := by
  simp [LL.f_whole, run_eq, ent_eq, LL.S_whole, isi_tab]
theorem whole_lst (d : Nat) (g : Option Tag) (ts : List T) : LL.f_whole d [.lst g ts] = .ok (.bl false) := by
  simp [LL.f_whole, run_eq, ent_eq, LL.S_whole, isi_tab]
theorem whole_tup (d : Nat) (ts : List T) : LL.f_whole d [.tup ts] = .ok (.bl false) := by
  simp [LL.f_whole, run_eq, ent_eq, LL.S_whole, isi_tab]
/-- one lot of the two that tell a side -/
def sideN (g a : Nat) : Nat := if a.testBit 0 = true then 2 ^ g - 1 - a else a
theorem lside_ev (d g a : Nat) (hg : g ≤ 1000) (ha : a < 2 ^ g) : LL.f_lside d [.int (g : Int), .int (a : Int)] = .ok (.int (sideN g a : Nat)) := by
  have hb := bit_ev (d + 1) a 0 (by omega)
  have hb' : LL.f_bit (d + 1) [.int (a : Int), .int 0] = .ok (.int ((a.testBit 0).toNat : Nat)) := hb
  have hs := shl_one (j := (g : Int)) (by omega) (by omega)
  have hp : ((2 ^ g : Nat) : Int) = 2 ^ g := by simp
  cases c : a.testBit 0 with
  | true =>
    rw [c] at hb'
    have e : (2 : Int) ^ g - 1 - (a : Int) = ((2 ^ g - 1 - a : Nat) : Int) := by omega
    simp [LL.f_lside, run_eq, ent_eq, LL.S_lside, hb', hs, sideN, c, e]
  | false =>
    rw [c] at hb'
    simp [LL.f_lside, run_eq, ent_eq, LL.S_lside, hb', hs, sideN, c]
/-! ### lists of whole numbers as data -/
theorem inV_nat (k : Nat) (l : List Nat) : T.isIn false (nT k) (.lst none (l.map nT)) = some (.bl (l.contains k)) ∧ T.isIn true (nT k) (.lst none (l.map nT)) = some (.bl (!l.contains k)) := by
  have e1 : ∀ l : List Nat, T.fvs (l.map nT) = some (l.map fun (x : Nat) => V.int (x : Int)) := fun l => by
    induction l with
    | nil => rfl
    | cons x l ih =>
      show (match T.fv (nT x), T.fvs (l.map nT) with | some v, some vs => some (v :: vs) | _, _ => none) = _
      rw [ih]
      rfl
  have e2 : inV (.int (k : Int)) (l.map fun (x : Nat) => V.int (x : Int)) = l.contains k := by
    unfold inV
    rw [List.any_map]
    induction l with
    | nil => rfl
    | cons x l ih =>
      rw [List.any_cons, ih, List.contains_cons]
      congr 1
      show ((x : Int) == (k : Int)) = (k == x)
      by_cases h : k = x
      · subst h
        rw [beq_self_eq_true, beq_self_eq_true]
      · have h2 : ¬ (x : Int) = (k : Int) := by omega
        rw [beq_eq_false_iff_ne.mpr h2, beq_eq_false_iff_ne.mpr h]
  constructor
  · simp only [T.isIn, T.fv, T.items, e1, e2, Bool.false_eq_true, if_false]
  · simp only [T.isIn, T.fv, T.items, e1, e2, if_true]
theorem sum_nat (l : List Nat) (g : Option Tag) : B.sum [.lst g (l.map nT)] = some (.int (l.sum : Nat)) := by
  have e1 : ∀ l : List Nat, B.nums (l.map nT) = some (l.map fun (x : Nat) => (x : Int)) := fun l => by
    induction l with
    | nil => rfl
    | cons x l ih =>
      show (match B.nums (l.map nT) with | some m => some ((x : Int) :: m) | none => none) = _
      rw [ih]
      rfl
  have e2 : (l.map fun (x : Nat) => (x : Int)).sum = ((l.sum : Nat) : Int) := by
    induction l with
    | nil => rfl
    | cons x l ih => simp [ih]
  show (match B.nums (l.map nT) with | some m => some (T.int m.sum) | none => none) = _
  rw [e1]
  show some (T.int _) = _
  rw [e2]
/-- two lists of whole numbers compared -/
theorem pds_nat (l : List Nat) : T.pds (l.map nT) = some (l.map fun (x : Nat) => PyData.int (x : Int)) := by
  induction l with
  | nil => rfl
  | cons x l ih =>
    show (match T.pd (nT x), T.pds (l.map nT) with | some d, some ds => some (d :: ds) | _, _ => none) = _
    rw [ih]
    rfl
theorem shaped_nat (l : List Nat) : SeqAt.shaped (.list (l.map fun (x : Nat) => PyData.int (x : Int))) = true := by
  have e1 : ∀ l : List Nat, PyData.canLayAll0 (l.map fun (x : Nat) => PyData.int (x : Int)) = true := fun l => by
    induction l with
    | nil => rfl
    | cons x l ih =>
      show (true && PyData.canLayAll0 (l.map fun (x : Nat) => PyData.int (x : Int))) = true
      rw [ih]
      rfl
  have e2 : ∀ l : List Nat, PyData.depthAll (l.map fun (x : Nat) => PyData.int (x : Int)) = 0 := fun l => by
    induction l with
    | nil => rfl
    | cons x l ih =>
      show max 0 (PyData.depthAll (l.map fun (x : Nat) => PyData.int (x : Int))) = 0
      rw [ih]
      rfl
  show (PyData.canLayAll0 (l.map fun (x : Nat) => PyData.int (x : Int)) && decide (PyData.depthAll (l.map fun (x : Nat) => PyData.int (x : Int)) + 1 ≤ 64)) = true
  rw [e1, e2]
  rfl
theorem eqv_nat (l m : List Nat) : PyData.eqvAll (l.map fun (x : Nat) => PyData.int (x : Int)) (m.map fun (x : Nat) => PyData.int (x : Int)) = (l == m) := by
  induction l generalizing m with
  | nil => cases m <;> rfl
  | cons x l ih =>
    cases m with
    | nil => rfl
    | cons y m =>
      show (((x : Int) == (y : Int)) && PyData.eqvAll _ _) = _
      rw [ih]
      show _ = ((x == y) && (l == m))
      congr 1
      by_cases h : x = y
      · subst h
        rw [beq_self_eq_true, beq_self_eq_true]
      · have h2 : ¬ (x : Int) = (y : Int) := by omega
        rw [beq_eq_false_iff_ne.mpr h2, beq_eq_false_iff_ne.mpr h]
theorem eq_nats (l m : List Nat) (g g' : Option Tag) : T.eq (.lst g (l.map nT)) (.lst g' (m.map nT)) = some (.bl (l == m)) := by
  show (match (T.pds (l.map nT)).map PyData.list, (T.pds (m.map nT)).map PyData.list with
    | some d, some e => if SeqAt.shaped d && SeqAt.shaped e then some (T.bl (PyData.eqv d e)) else none
    | _, _ => none) = _
  rw [pds_nat, pds_nat]
  show (if (SeqAt.shaped (.list _) && SeqAt.shaped (.list _)) = true then some (T.bl (PyData.eqvAll _ _)) else none) = _
  rw [shaped_nat, shaped_nat, eqv_nat]
  rfl
end Py

set_option Elab.async false
set_option linter.all false
set_option maxRecDepth 100000
set_option maxHeartbeats 4000000
namespace Py
open PySem L2

/-! ### what is wanted of a statement's end -/
structure Wq where
  nx : Fv → Prop := fun _ => False
  rt : T → Prop := fun _ => False
  br : Fv → Prop := fun _ => False
  ct : Fv → Prop := fun _ => False
  er : Exn → Fv → Prop := fun _ _ => False
def sat0 (Q : Wq) : RS → Prop
  | .nx e => Q.nx e
  | .rt t => Q.rt t
  | .br e => Q.br e
  | .ct e => Q.ct e
  | .er x e => Q.er x e
  | .stuck => False
/-- (a structure: nothing unfolds it by itself) -/
structure sat (Q : Wq) (r : RS) : Prop where
  of :: h : sat0 Q r
theorem sat_eq {Q : Wq} {r : RS} : sat Q r = sat0 Q r := propext ⟨fun z => z.h, fun z => ⟨z⟩⟩
section
variable {Q : Wq} {r : RS} {u s body : Sx} {env : Fv} {t : T} {x : Exn} {tg : T → Fv → Option Fv} {c : Prop} {α : Type}
@[simp] theorem sat_nx : sat Q (.nx env) = Q.nx env := sat_eq
@[simp] theorem sat_rt : sat Q (.rt t) = Q.rt t := sat_eq
@[simp] theorem sat_br : sat Q (.br env) = Q.br env := sat_eq
@[simp] theorem sat_ct : sat Q (.ct env) = Q.ct env := sat_eq
@[simp] theorem sat_er : sat Q (.er x env) = Q.er x env := sat_eq
@[simp] theorem sat_stuck : sat Q .stuck = False := sat_eq
@[simp] theorem sat_k : sat Q (RS.k r u) = sat { Q with nx := fun e => sat Q (u e) } r := by rw [sat_eq, sat_eq]; cases r <;> first | rfl | exact sat_eq.symm
theorem sat_ite [Decidable c] {a b : RS} : sat Q (if c then a else b) = ((c → sat Q a) ∧ (¬ c → sat Q b)) := by
  by_cases h : c
  · rw [if_pos h]
    exact propext ⟨fun z => ⟨fun _ => z, fun n => absurd h n⟩, fun z => z.1 h⟩
  · rw [if_neg h]
    exact propext ⟨fun z => ⟨fun n => absurd n h, fun _ => z⟩, fun z => z.2 h⟩
theorem sat_mono {Q Q' : Wq} (h : sat Q r) (h1 : ∀ e, Q.nx e → Q'.nx e) (h2 : ∀ t, Q.rt t → Q'.rt t) (h3 : ∀ e, Q.br e → Q'.br e) (h4 : ∀ e, Q.ct e → Q'.ct e) (h5 : ∀ x e, Q.er x e → Q'.er x e) : sat Q' r := by
  rw [sat_eq] at h ⊢
  cases r with
  | nx e => exact h1 _ h
  | rt e => exact h2 _ h
  | br e => exact h3 _ h
  | ct e => exact h4 _ h
  | er x e => exact h5 _ _ h
  | stuck => exact h
/-- only what is next is wanted, and it is kept out of sight -/
theorem sat_hide {I : Fv → Prop} (hI : ∀ e, I e → Q.nx e) (h : ∀ J : Fv → Prop, (∀ e, I e → J e) → sat { nx := J } r) : sat Q r :=
  sat_mono (h I fun _ z => z) hI (fun _ z => z.elim) (fun _ z => z.elim) (fun _ z => z.elim) (fun _ _ z => z.elim)
/-- a for by its invariant -/
theorem sat_turns (I : Nat → Fv → Prop) : ∀ {xs : List T} {k0 : Nat} {env : Fv}, I k0 env →
    (∀ k x e, xs[k]? = some x → I (k0 + k) e → ∃ e1, tg x e = some e1 ∧ sat { nx := I (k0 + k + 1), ct := I (k0 + k + 1), br := Q.nx, rt := Q.rt, er := Q.er } (body e1)) →
    (∀ e, I (k0 + xs.length) e → Q.nx e) → sat Q (S.turns tg body xs env)
  | [], k0, env, h0, _, hq => ⟨hq env h0⟩
  | x :: xs, k0, env, h0, hs, hq => by
    obtain ⟨e1, h1, h2⟩ := hs 0 x env rfl h0
    have e0 : S.turns tg body (x :: xs) env = (match tg x env with
      | some env1 => (match body env1 with
        | .nx env => S.turns tg body xs env
        | .ct env => S.turns tg body xs env
        | .br env => .nx env
        | r => r)
      | none => .stuck) := nrfl rfl
    rw [e0, h1]
    have rec_ : ∀ e2, I (k0 + 0 + 1) e2 → sat Q (S.turns tg body xs e2) := fun e2 h3 => by
      refine sat_turns I (k0 := k0 + 1) h3 (fun k y e hk hI => ?_) (fun e hI => hq e ?_)
      · have := hs (k + 1) y e hk (by rw [show k0 + (k + 1) = k0 + 1 + k by omega]; exact hI)
        rw [show k0 + (k + 1) + 1 = k0 + 1 + k + 1 by omega] at this
        exact this
      · rw [List.length_cons, show k0 + (xs.length + 1) = k0 + 1 + xs.length by omega]; exact hI
    rw [sat_eq] at h2
    cases z : body e1 with
    | nx e2 => rw [z] at h2; simp only [z]; exact rec_ e2 h2
    | ct e2 => rw [z] at h2; simp only [z]; exact rec_ e2 h2
    | br e2 => rw [z] at h2; simp only [z]; exact ⟨h2⟩
    | rt t => rw [z] at h2; simp only [z]; exact ⟨h2⟩
    | er x e => rw [z] at h2; simp only [z]; exact ⟨h2⟩
    | stuck => rw [z] at h2; exact h2.elim
theorem sat_for (I : Nat → Fv → Prop) {xs : List T} {env : Fv} (h0 : I 0 env)
    (hs : ∀ k x e, xs[k]? = some x → I k e → ∃ e1, tg x e = some e1 ∧ sat { nx := I (k + 1), ct := I (k + 1), br := Q.nx, rt := Q.rt, er := Q.er } (body e1))
    (hq : ∀ e, I xs.length e → Q.nx e) : sat Q (S.turns tg body xs env) :=
  sat_turns I (k0 := 0) h0 (fun k x e hk hI => by
    have := hs k x e hk (by rw [Nat.zero_add] at hI; exact hI)
    rw [Nat.zero_add]
    exact this) (fun e hI => hq e (by rw [Nat.zero_add] at hI; exact hI))
/-- over numbers -/
theorem sat_rng (I : Nat → Fv → Prop) {lo : Int} {n : Nat} {env : Fv} (h0 : I 0 env)
    (hs : ∀ k e, k < n → I k e → ∃ e1, tg (.int (lo + (k : Int))) e = some e1 ∧ sat { nx := I (k + 1), ct := I (k + 1), br := Q.nx, rt := Q.rt, er := Q.er } (body e1))
    (hq : ∀ e, I n e → Q.nx e) : sat Q (S.turns tg body (rng lo n) env) :=
  sat_for I h0 (fun k x e hk hI => by
    unfold rng at hk
    rw [List.getElem?_map] at hk
    cases q : (List.range n)[k]? with
    | none => rw [q] at hk; cases hk
    | some j =>
      rw [q] at hk
      cases hk
      obtain ⟨hl, e3⟩ := List.getElem?_eq_some_iff.mp q
      rw [List.length_range] at hl
      rw [List.getElem_range] at e3
      subst e3
      exact hs k e hl hI) (fun e hI => hq e (by
        unfold rng at hI
        rw [List.length_map, List.length_range] at hI
        exact hI))
/-- over numbers from a natural number on -/
theorem sat_rngN (I : Nat → Fv → Prop) {lo : Int} {n : Nat} {env : Fv} (a : Nat) (ha : lo = (a : Int)) (h0 : I 0 env)
    (hs : ∀ k e, k < n → I k e → ∃ e1, tg (nT (a + k)) e = some e1 ∧ sat { nx := I (k + 1), ct := I (k + 1), br := Q.nx, rt := Q.rt, er := Q.er } (body e1))
    (hq : ∀ e, I n e → Q.nx e) : sat Q (S.turns tg body (rng lo n) env) :=
  sat_rng I h0 (fun k e hk hI => by
    have := hs k e hk hI
    have e0 : nT (a + k) = .int (lo + (k : Int)) := by
      rw [ha]
      show T.int ((a + k : Nat) : Int) = _
      rw [Int.natCast_add]
    rw [e0] at this
    exact this) hq
/-- over the trees of a list -/
theorem sat_map {β : Type} {g : β → T} (I : Nat → Fv → Prop) {xs : List β} {env : Fv} (h0 : I 0 env)
    (hs : ∀ k x e, xs[k]? = some x → I k e → ∃ e1, tg (g x) e = some e1 ∧ sat { nx := I (k + 1), ct := I (k + 1), br := Q.nx, rt := Q.rt, er := Q.er } (body e1))
    (hq : ∀ e, I xs.length e → Q.nx e) : sat Q (S.turns tg body (xs.map g) env) :=
  sat_for I h0 (fun k x e hk hI => by
    rw [List.getElem?_map] at hk
    cases q : xs[k]? with
    | none => rw [q] at hk; cases hk
    | some j =>
      rw [q] at hk
      cases hk
      exact hs k j e q hI) (fun e hI => hq e (by rw [List.length_map] at hI; exact hI))
/-- a while by a measure -/
theorem sat_while {b : P.Bx} (I : Nat → Fv → Prop) (h : ∀ n e, I n e → ∃ c, b e = .ok c ∧ if c = true then sat { nx := fun e => ∃ m, m < n ∧ I m e, ct := fun e => ∃ m, m < n ∧ I m e, br := Q.nx, rt := Q.rt, er := Q.er } (body e) else Q.nx e) :
    ∀ (k n : Nat) (env : Fv), n < k → I n env → sat Q (S.while_ b body k env)
  | 0, n, env, hn, _ => absurd hn (Nat.not_lt_zero _)
  | k + 1, n, env, hn, hI => by
    obtain ⟨c, h1, h2⟩ := h n env hI
    have e0 : S.while_ b body (k + 1) env = (b env).thenX env fun b' => if b' = true then (match body env with
      | .nx env => S.while_ b body k env
      | .ct env => S.while_ b body k env
      | .br env => .nx env
      | r => r) else .nx env := rfl
    rw [e0, h1, Res.thenX_ok]
    cases c with
    | false => rw [if_neg Bool.false_ne_true] at h2 ⊢; exact ⟨h2⟩
    | true =>
      rw [if_pos rfl] at h2 ⊢
      rw [sat_eq] at h2
      cases z : body env with
      | nx e2 => rw [z] at h2; obtain ⟨m, hm, hI'⟩ := h2; simp only [z]; exact sat_while I h k m e2 (by omega) hI'
      | ct e2 => rw [z] at h2; obtain ⟨m, hm, hI'⟩ := h2; simp only [z]; exact sat_while I h k m e2 (by omega) hI'
      | br e2 => rw [z] at h2; simp only [z]; exact ⟨h2⟩
      | rt t => rw [z] at h2; simp only [z]; exact ⟨h2⟩
      | er x e => rw [z] at h2; simp only [z]; exact ⟨h2⟩
      | stuck => rw [z] at h2; exact h2.elim
end
/-- a def that answers -/
theorem run_ok {n : Nat} {s : Sx} {ts : List T} {Pp : T → Prop} (h : sat { nx := fun _ => Pp .non, rt := Pp } (s (ent n ts))) : ∃ t, run n s ts = .ok t ∧ Pp t := by
  rw [sat_eq] at h
  unfold run
  cases z : s (ent n ts) with
  | nx e => rw [z] at h; exact ⟨_, rfl, h⟩
  | rt t => rw [z] at h; exact ⟨_, rfl, h⟩
  | br e => rw [z] at h; exact h.elim
  | ct e => rw [z] at h; exact h.elim
  | er x e => rw [z] at h; exact h.elim
  | stuck => rw [z] at h; exact h.elim
theorem run_is {n : Nat} {s : Sx} {ts : List T} {r : T} (h : sat { nx := fun _ => r = .non, rt := fun t => t = r } (s (ent n ts))) : run n s ts = .ok r := by
  rw [sat_eq] at h
  unfold run
  cases z : s (ent n ts) with
  | nx e => rw [z] at h; rw [show r = .non from h]; rfl
  | rt t => rw [z] at h; rw [show t = r from h]; rfl
  | br e => rw [z] at h; exact h.elim
  | ct e => rw [z] at h; exact h.elim
  | er x e => rw [z] at h; exact h.elim
  | stuck => rw [z] at h; exact h.elim
/-- .. that may raise -/
theorem run_any {n : Nat} {s : Sx} {ts : List T} {Pp : T → Prop} {Ep : Exn → Prop} (h : sat { nx := fun _ => Pp .non, rt := Pp, er := fun x _ => Ep x } (s (ent n ts))) : (∃ t, run n s ts = .ok t ∧ Pp t) ∨ ∃ x, run n s ts = .er x ∧ Ep x := by
  rw [sat_eq] at h
  unfold run
  cases z : s (ent n ts) with
  | nx e => rw [z] at h; exact .inl ⟨_, rfl, h⟩
  | rt t => rw [z] at h; exact .inl ⟨_, rfl, h⟩
  | br e => rw [z] at h; exact h.elim
  | ct e => rw [z] at h; exact h.elim
  | er x e => rw [z] at h; exact .inr ⟨_, rfl, h⟩
  | stuck => rw [z] at h; exact h.elim
theorem runI_ok {n c : Nat} {s : Sx} {ts : List T} {Pp : Fld → Prop} (h : sat { nx := fun e => ∃ ns us, e[0]? = some (some (Sl.oi c ns us)) ∧ Pp (ns, us) } (s (entI n c ts))) : ∃ r, runI n c s ts = .ok r ∧ Pp r := by
  rw [sat_eq] at h
  unfold runI
  cases z : s (entI n c ts) with
  | nx e =>
    rw [z] at h
    obtain ⟨ns, us, h1, h2⟩ := h
    refine ⟨_, ?_, h2⟩
    simp only [finI, h1, if_true]
  | rt t => rw [z] at h; exact h.elim
  | br e => rw [z] at h; exact h.elim
  | ct e => rw [z] at h; exact h.elim
  | er x e => rw [z] at h; exact h.elim
  | stuck => rw [z] at h; exact h.elim
theorem entI_eq {n c : Nat} {ts : List T} : entI n c ts = some (.oi c [] []) :: (ts.map (fun t => some (.fz t)) ++ List.replicate (n - 1 - ts.length) none) := nrfl rfl
theorem atI_map {β : Type} {g : β → T} {l : List β} {k : Nat} (h : k < l.length) : atI (l.map g) (k : Int) = some (g l[k]) := by
  rw [atI_nat (by rw [List.length_map]; exact h), List.getElem?_map, List.getElem?_eq_getElem h]
  rfl
theorem atI_mapI {β : Type} {g : β → T} {l : List β} {z : Int} (k : Nat) (hz : z = (k : Int)) (h : k < l.length) : atI (l.map g) z = some (g l[k]) := by
  rw [hz]
  exact atI_map h
/-! ### evaluation of the further combinators -/
section
variable {α : Type} {d i c : Nat} {env : Fv} {t : T} {ts us : List T} {p q : P.Ex1} {a : P.Ax} {f : Str} {ns : List Str} {g : Option Tag}
@[simp] theorem ev_asgY : S.asgY i p env = (p env).thenY env fun t => if t.fr = true ∧ i < env.length then .nx (env.set i (some (.fz t))) else .stuck := nrfl rfl
@[simp] theorem ev_retY : S.retY p env = (p env).thenY env fun t => if t.fr = true then .rt t else .stuck := nrfl rfl
@[simp] theorem ev_exprY : S.exprY p env = (p env).thenY env fun _ => .nx env := nrfl rfl
@[simp] theorem ev_iteY {b : P.Bx} {s u : Sx} : S.iteY b s u env = (b env).thenY env fun c => if c = true then s env else u env := nrfl rfl
@[simp] theorem thenY_ite {β : Type} {z : Prop} [Decidable z] {x y : Res β} {h : β → RS} : Res.thenY (if z then x else y) env h = if z then Res.thenY x env h else Res.thenY y env h := by split <;> rfl
def appYK (i : Nat) (m : Res T) (env : Fv) : Option (Option Sl) → RS
  | some (some (.ol ts)) => m.thenY env fun t => if t.fr = true ∧ ts.length < sizeLine then .nx (env.set i (some (.ol (ts ++ [t])))) else .stuck
  | _ => .stuck
@[simp] theorem ev_appY : S.appY i p env = appYK i (p env) env env[i]? := by
  unfold S.appY appYK
  rfl
@[simp] theorem appYK_ol {m : Res T} : appYK i m env (some (some (.ol ts))) = m.thenY env fun t => if t.fr = true ∧ ts.length < sizeLine then .nx (env.set i (some (.ol (ts ++ [t])))) else .stuck := nrfl rfl
@[simp] theorem fr_int {z : Int} : T.fr (.int z) = true := nrfl rfl
@[simp] theorem fr_bl {z : Bool} : T.fr (.bl z) = true := nrfl rfl
@[simp] theorem fr_str {z : Str} : T.fr (.str z) = true := nrfl rfl
@[simp] theorem fr_non : T.fr .non = true := nrfl rfl
@[simp] theorem fr_lst : T.fr (.lst none ts) = T.frs ts := nrfl (by simp [T.fr])
@[simp] theorem fr_tup : T.fr (.tup ts) = T.frs ts := nrfl (by simp [T.fr])
@[simp] theorem fr_ins {cc : Nat} : T.fr (.ins none cc ns ts) = T.frs ts := nrfl (by simp [T.fr])
@[simp] theorem frs_nil : T.frs [] = true := nrfl rfl
@[simp] theorem frs_cons : T.frs (t :: ts) = (t.fr && T.frs ts) := nrfl (by simp [T.frs])
theorem frs_map {β : Type} {g : β → T} (h : ∀ x, (g x).fr = true) : ∀ l : List β, T.frs (l.map g) = true
  | [] => by simp
  | x :: l => by rw [List.map_cons, frs_cons, h, frs_map h l]; rfl
@[simp] theorem frs_nats {l : List Nat} : T.frs (l.map nT) = true := frs_map (fun _ => by simp) l
@[simp] theorem frs_ints {l : List Int} : T.frs (l.map T.int) = true := frs_map (fun _ => by simp) l
def opK : T → Res (Option Int)
  | .int i => .ok (some i)
  | _ => .stuck
@[simp] theorem opK_int {z : Int} : opK (.int z) = .ok (some z) := nrfl rfl
@[simp] theorem ev_op0 : P.opart none env = .ok none := nrfl rfl
@[simp] theorem ev_op1 : P.opart (some p) env = (p env).bind opK := nrfl rfl
@[simp] theorem ev_cut {lo hi : Option P.Ex1} : P.cut p lo hi env = (p env).bind fun t => (P.opart lo env).bind fun l => (P.opart hi env).bind fun u => .of (t.cut l u) := nrfl rfl
@[simp] theorem ev_cutA {lo hi : Option P.Ex1} : P.cutA p lo hi env = (p env).bind fun t => (P.opart lo env).bind fun l => (P.opart hi env).bind fun u => .of (t.cutA l u) := nrfl rfl
theorem cutA_lst {lo hi : Option Int} : T.cutA (.lst g ts) lo hi = T.cut (.lst g ts) lo hi := rfl
@[simp] theorem isk_non {tab : TyK → Option Bool} : T.isk tab .non = (tab (.inl "NoneType")).map .bl := nrfl rfl
@[simp] theorem isk_bl {tab : TyK → Option Bool} {b : Bool} : T.isk tab (.bl b) = (tab (.inl "bool")).map .bl := nrfl rfl
@[simp] theorem isk_int {tab : TyK → Option Bool} {z : Int} : T.isk tab (.int z) = (tab (.inl "int")).map .bl := nrfl rfl
@[simp] theorem isk_str {tab : TyK → Option Bool} {z : Str} : T.isk tab (.str z) = (tab (.inl "str")).map .bl := nrfl rfl
@[simp] theorem isk_lst {tab : TyK → Option Bool} : T.isk tab (.lst g ts) = (tab (.inl "list")).map .bl := nrfl rfl
@[simp] theorem isk_tup {tab : TyK → Option Bool} : T.isk tab (.tup ts) = (tab (.inl "tuple")).map .bl := nrfl rfl
@[simp] theorem isk_ins {tab : TyK → Option Bool} {cc : Nat} : T.isk tab (.ins g cc ns ts) = (tab (.inr cc)).map .bl := nrfl rfl
def fsetK (c i : Nat) (f : Str) (t : T) (env : Fv) : Option (Option Sl) → RS
  | some (some (.oi c' ns ts)) => if c' = c ∧ ns.contains f = false ∧ ns.length < 1000 then .nx (env.set i (some (.oi c (ns ++ [f]) (ts ++ [t])))) else .stuck
  | _ => .stuck
@[simp] theorem ev_fset : S.fset c i f p env = (p (hide env)).then_ env fun t => fsetK c i f t env env[i]? := by
  unfold S.fset fsetK
  rfl
@[simp] theorem fsetK_oi {c' : Nat} : fsetK c i f t env (some (some (.oi c' ns ts))) = if c' = c ∧ ns.contains f = false ∧ ns.length < 1000 then .nx (env.set i (some (.oi c (ns ++ [f]) (ts ++ [t])))) else .stuck := nrfl rfl
@[simp] theorem frzK_oi {s : Sx} {cc : Nat} : frzK i s env (some (some (.oi cc ns ts))) = s (env.set i (some (.fz (.ins none cc ns ts)))) := nrfl rfl
@[simp] theorem ev_make {h : List T → Res Fld} : P.make c h a env = (a env).bind fun ts => (h ts).bind fun r => .ok (.ins none c r.1 r.2) := nrfl rfl
@[simp] theorem fld_ins {cs : List Nat} : T.fld cs f (.ins g c ns ts) = if cs.contains c = true then (ns.zip ts).lookup f else none := nrfl rfl
@[simp] theorem B_tuple_lst : B.tuple [.lst g ts] = some (.tup ts) := nrfl rfl
@[simp] theorem B_tuple_tup : B.tuple [.tup ts] = some (.tup ts) := nrfl rfl
@[simp] theorem B_list_lst : B.list [.lst g ts] = some (.lst none ts) := nrfl rfl
@[simp] theorem B_list_tup : B.list [.tup ts] = some (.lst none ts) := nrfl rfl
def setXK (i : Nat) (k : P.Ex1) (p : Res T) (env : Fv) : Option (Option Sl) → RS
  | some (some (.ol ts)) => p.thenX env fun t => (k env).thenX env fun j => (match j with
    | .int z => (match ixN ts.length z with
      | some m => if flat t = true then .nx (env.set i (some (.ol (ts.set m t)))) else .stuck
      | none => .stuck)
    | _ => .stuck)
  | _ => .stuck
@[simp] theorem ev_setX : S.setX i q p env = setXK i q (p env) env env[i]? := by
  unfold S.setX setXK
  rfl
def setXJ (i : Nat) (t : T) (env : Fv) (ts : List T) : T → RS
  | .int z => (match ixN ts.length z with
      | some m => if flat t = true then .nx (env.set i (some (.ol (ts.set m t)))) else .stuck
      | none => .stuck)
  | _ => .stuck
@[simp] theorem setXK_ol {r : Res T} : setXK i q r env (some (some (.ol ts))) = r.thenX env fun t => (q env).thenX env fun j => setXJ i t env ts j := nrfl rfl
theorem setXJ_nat {k : Nat} (h : k < ts.length) (hf : flat t = true) : setXJ i t env ts (.int (k : Int)) = .nx (env.set i (some (.ol (ts.set k t)))) := by
  unfold setXJ
  simp only [ixN_nat h, hf, if_true]
end
end Py
namespace Py
open PySem L2
/-! ### sorted natural numbers -/
def srt (l : List Nat) : List Nat := l.mergeSort (fun a b => decide (a ≤ b))
theorem srt_perm (l : List Nat) : (srt l).Perm l := List.mergeSort_perm l _
theorem srt_pw (l : List Nat) : (srt l).Pairwise (· ≤ ·) := by
  have h := List.pairwise_mergeSort (le := fun a b : Nat => decide (a ≤ b)) (fun a b c h1 h2 => by simp at *; omega) (fun a b => by simp; omega) l
  exact h.imp fun h => of_decide_eq_true h
theorem srt_unique {l m : List Nat} (hp : m.Perm l) (hs : m.Pairwise (· ≤ ·)) : m = srt l :=
  List.Perm.eq_of_pairwise (fun a b _ _ h1 h2 => Nat.le_antisymm h1 h2) hs (srt_pw l) (hp.trans (srt_perm l).symm)
theorem srt_len (l : List Nat) : (srt l).length = l.length := (srt_perm l).length_eq
theorem mem_srt {l : List Nat} {a : Nat} : a ∈ srt l ↔ a ∈ l := (srt_perm l).mem_iff
theorem nums_nats (l : List Nat) : B.nums (l.map nT) = some (l.map fun (x : Nat) => (x : Int)) := by
  induction l with
  | nil => rfl
  | cons x l ih =>
    show (match B.nums (l.map nT) with | some m => some ((x : Int) :: m) | none => none) = _
    rw [ih]
    rfl
theorem sorted_nats (l : List Nat) (g : Option Tag) : B.sorted [.lst g (l.map nT)] = some (.lst none ((srt l).map nT)) := by
  show (match B.nums (l.map nT) with | some l => some (T.lst none ((isort l).map T.int)) | none => none) = _
  rw [nums_nats]
  have e : isort (l.map fun (x : Nat) => (x : Int)) = (srt l).map fun (x : Nat) => (x : Int) := by
    refine (isort_unique ((srt_perm l).map _) ?_).symm
    rw [List.pairwise_map]
    exact (srt_pw l).imp fun h => by omega
  show some (T.lst none ((isort (l.map fun (x : Nat) => (x : Int))).map T.int)) = _
  rw [e, List.map_map]
  rfl
/-- digits as natural numbers -/
def DigN : List Nat → List Nat → Prop
  | [], [] => True
  | x :: xs, s :: ss => x < s ∧ DigN xs ss
  | _, _ => False
theorem digN_of : ∀ {xs : List Int} {sz : List Nat}, Digs xs (sz.map fun (s : Nat) => (s : Int)) → ∃ ys : List Nat, xs = ys.map (fun (y : Nat) => (y : Int)) ∧ DigN ys sz
  | [], [], _ => ⟨[], rfl, trivial⟩
  | [], _ :: _, h => h.elim
  | _ :: _, [], h => h.elim
  | x :: xs, s :: sz, h => by
    obtain ⟨⟨h1, h2⟩, h3⟩ := (show (0 ≤ x ∧ x < (s : Int)) ∧ Digs xs (sz.map fun (s : Nat) => (s : Int)) from h)
    obtain ⟨ys, rfl, h4⟩ := digN_of h3
    exact ⟨x.toNat :: ys, by rw [List.map_cons, Int.toNat_of_nonneg h1], by omega, h4⟩
theorem DigN.length : ∀ {xs ss : List Nat}, DigN xs ss → xs.length = ss.length
  | [], [], _ => rfl
  | _ :: _, _ :: _, h => by rw [List.length_cons, List.length_cons, DigN.length h.2]
theorem DigN.get : ∀ {xs ss : List Nat} {k : Nat} {x s : Nat}, DigN xs ss → xs[k]? = some x → ss[k]? = some s → x < s
  | [], [], _, _, _, _, h, _ => by simp at h
  | _ :: _, _ :: _, 0, _, _, h, h1, h2 => by cases h1; cases h2; exact h.1
  | _ :: _, _ :: _, k + 1, _, _, h, h1, h2 => DigN.get (k := k) h.2 h1 h2
theorem digitsN_ev (d : Nat) (c : Int) (g : Option Tag) (sz : List Nat) (hs : ∀ s ∈ sz, 0 < s ∧ s < 2 ^ 100) (hl : sz.length ≤ 1000) : ∃ xs : List Nat, DigN xs sz ∧ run 8 (LL.S_digits d) [.int c, .lst g (sz.map nT)] = .ok (.lst none (xs.map nT)) := by
  have e1 : sz.map nT = (sz.map fun (s : Nat) => (s : Int)).map T.int := by rw [List.map_map]; rfl
  obtain ⟨xs, h1, h2⟩ := digits_ev d c g (sz.map fun (s : Nat) => (s : Int)) (fun s h => by
    obtain ⟨n, hn, rfl⟩ := List.mem_map.mp h
    obtain ⟨a, b⟩ := hs n hn
    refine ⟨by omega, ?_⟩
    have b2 : n < 2 ^ 1000 := Nat.lt_of_lt_of_le b (Nat.pow_le_pow_right (by omega) (by omega))
    exact_mod_cast b2) (by rw [List.length_map]; exact hl)
  obtain ⟨ys, rfl, h3⟩ := digN_of h1
  refine ⟨ys, h3, ?_⟩
  rw [e1, h2, List.map_map]
  rfl
/-! ### lists made of ranges, taken apart -/
theorem rangeC (d i n : Nat) (env : Fv) (hi : i < env.length) : P.turnsC (S.tName i) P.yes (P.var d i) env (rng 0 n) = .ok ((List.range n).map nT) := by
  have e0 : rng 0 n = (List.range n).map fun (k : Nat) => T.int (0 + (k : Int)) := rfl
  have hc := turnsC_map (tg := S.tName i) (b := P.yes) (p := P.var d i) (env := env) (g := fun (k : Nat) => T.int (0 + (k : Int))) (c := fun _ => true) (f := nT) (List.range n) (fun k _ => by
    refine ⟨env.set i (some (.fz (.int (0 + (k : Int))))), ?_, rfl, fun _ => ?_⟩
    · rw [ev_tName, if_pos hi]
    · have e2 : (env.set i (some (Sl.fz (.int (0 + (k : Int))))))[i]? = some (some (.fz (.int (0 + (k : Int))))) := List.getElem?_set_self hi
      simp only [ev_var, ev_rd, e2, slT_fz, Res.of_some]
      rw [Int.zero_add])
  rw [e0, hc, List.filter_eq_self.mpr (fun _ _ => rfl)]
theorem rng_len (lo : Int) (n : Nat) : (rng lo n).length = n := by unfold rng; rw [List.length_map, List.length_range]
theorem eraseIdx_map' {α β : Type} (f : α → β) : ∀ (l : List α) (m : Nat), (l.map f).eraseIdx m = (l.eraseIdx m).map f
  | [], _ => rfl
  | x :: l, 0 => rfl
  | x :: l, m + 1 => by rw [List.map_cons, List.eraseIdx_cons_succ, List.eraseIdx_cons_succ, List.map_cons, eraseIdx_map' f l m]
theorem popApp_ev {i j m : Nat} {env : Fv} {k : P.Ex1} {us ts : List Nat} (hj : env[j]? = some (some (.ol (us.map nT)))) (hi : env[i]? = some (some (.ol (ts.map nT)))) (hk : k env = .ok (nT m)) (hm : m < ts.length) (hl : ts.length ≤ 1000000) (hu : us.length ≤ 100000) (hij : i ≠ j) :
    S.popApp i j k env = .nx ((env.set i (some (.ol ((ts.eraseIdx m).map nT)))).set j (some (.ol ((us ++ [ts[m]]).map nT)))) := by
  have h1 : ixN (ts.map nT).length (m : Int) = some m := ixN_nat (by rw [List.length_map]; exact hm)
  have h2 : (ts.map nT)[m]? = some (nT ts[m]) := by rw [List.getElem?_map, List.getElem?_eq_getElem hm]; rfl
  have h3 : lfit (ts.map nT).length = true ∧ (us.map nT).length < sizeLine ∧ i ≠ j := by
    rw [List.length_map, List.length_map]
    exact ⟨lfit_ok hl, Nat.lt_of_le_of_lt hu (by decide), hij⟩
  have h4 : (ts.map nT).eraseIdx m = (ts.eraseIdx m).map nT := eraseIdx_map' _ _ _
  unfold S.popApp
  simp only [hj, hi, hk, Res.thenX_ok, h1, h2, if_pos h3, h4, List.map_append, List.map_cons, List.map_nil]
theorem eraseIdx_perm {α : Type} : ∀ {l : List α} {m : Nat} (h : m < l.length), (l[m] :: l.eraseIdx m).Perm l
  | x :: l, 0, _ => .refl _
  | x :: l, m + 1, h => by
    have := eraseIdx_perm (l := l) (m := m) (by simpa using h)
    rw [List.eraseIdx_cons_succ, List.getElem_cons_succ]
    exact (List.Perm.swap _ _ _).trans (this.cons x)
theorem cut_hi (l : List Nat) (g : Option Tag) (k : Nat) : T.cut (.lst g (l.map nT)) none (some (k : Int)) = some (.lst none ((l.take k).map nT)) := by
  show some (T.lst none (((l.map nT).drop (HT.sIx (l.map nT).length 0 none)).take (HT.sIx (l.map nT).length (l.map nT).length (some (k : Int)) - HT.sIx (l.map nT).length 0 none))) = _
  rw [HT.sIx_none, HT.sIx_nat, List.drop_zero, Nat.sub_zero, List.length_map, ← List.map_take]
  congr 3
  rcases Nat.le_total k l.length with h | h
  · rw [Nat.min_eq_left h]
  · rw [Nat.min_eq_right h, List.take_of_length_le (Nat.le_refl _), List.take_of_length_le h]
theorem cut_lo (l : List Nat) (g : Option Tag) (k : Nat) : T.cut (.lst g (l.map nT)) (some (k : Int)) none = some (.lst none ((l.drop k).map nT)) := by
  show some (T.lst none (((l.map nT).drop (HT.sIx (l.map nT).length 0 (some (k : Int)))).take (HT.sIx (l.map nT).length (l.map nT).length none - HT.sIx (l.map nT).length 0 (some (k : Int))))) = _
  rw [HT.sIx_none, HT.sIx_nat, List.length_map]
  rw [List.take_of_length_le (by rw [List.length_drop, List.length_map]; omega), ← List.map_drop]
  congr 3
  rcases Nat.le_total k l.length with h | h
  · rw [Nat.min_eq_left h]
  · rw [Nat.min_eq_right h, List.drop_of_length_le (Nat.le_refl _), List.drop_of_length_le h]
/-- two ascending lists of the same members -/
theorem asc_unique {l m : List Nat} (hl : l.Pairwise (· < ·)) (hm : m.Pairwise (· < ·)) (h : ∀ a, a ∈ l ↔ a ∈ m) : l = m := by
  have nl : l.Nodup := hl.imp fun h => Nat.ne_of_lt h
  have nm : m.Nodup := hm.imp fun h => Nat.ne_of_lt h
  exact List.Perm.eq_of_pairwise (fun a b _ _ h1 h2 => absurd h1 (Nat.lt_asymm h2)) hl hm ((List.perm_ext_iff_of_nodup nl nm).mpr h)
theorem srt_asc {l : List Nat} (h : l.Nodup) : (srt l).Pairwise (· < ·) := by
  have h1 := srt_pw l
  have h2 : (srt l).Nodup := (srt_perm l).nodup_iff.mpr h
  exact (h1.and h2).imp fun ⟨a, b⟩ => Nat.lt_of_le_of_ne a b
/-- the places where an ascending list grows -/
def ddB (l : List Nat) (k : Nat) : Bool := decide (k = 0) || !decide (l.getD k 0 = l.getD (k - 1) 0)
def dd (l : List Nat) : List Nat := ((List.range l.length).filter (ddB l)).map fun k => l.getD k 0
theorem getD_le {l : List Nat} (h : l.Pairwise (· ≤ ·)) {i j : Nat} (hij : i ≤ j) (hj : j < l.length) : l.getD i 0 ≤ l.getD j 0 := by
  rw [List.getD_eq_getElem?_getD, List.getD_eq_getElem?_getD, List.getElem?_eq_getElem hj, List.getElem?_eq_getElem (by omega)]
  rcases Nat.lt_or_eq_of_le hij with z | z
  · exact List.pairwise_iff_getElem.mp h i j (by omega) hj z
  · subst z; exact Nat.le_refl _
theorem dd_asc {l : List Nat} (h : l.Pairwise (· ≤ ·)) : (dd l).Pairwise (· < ·) := by
  unfold dd
  rw [List.pairwise_map, List.pairwise_filter]
  refine List.pairwise_lt_range.imp_of_mem fun {i j} hi hj hij hbi hbj => ?_
  have hj' := List.mem_range.mp hj
  unfold ddB at hbj
  have h0 : decide (j = 0) = false := decide_eq_false (by omega)
  rw [h0, Bool.false_or, Bool.not_eq_true', decide_eq_false_iff_not] at hbj
  have h1 := getD_le h (show i ≤ j - 1 by omega) (by omega)
  have h2 := getD_le h (show j - 1 ≤ j by omega) hj'
  omega
theorem mem_dd {l : List Nat} (h : l.Pairwise (· ≤ ·)) {a : Nat} : a ∈ dd l ↔ a ∈ l := by
  unfold dd
  rw [List.mem_map]
  constructor
  · rintro ⟨k, hk, rfl⟩
    have hk' := List.mem_range.mp (List.mem_filter.mp hk).1
    rw [List.getD_eq_getElem?_getD, List.getElem?_eq_getElem hk']
    exact List.getElem_mem hk'
  · intro ha
    obtain ⟨k, hk, e⟩ := List.mem_iff_getElem.mp ha
    have key : ∀ k, k < l.length → l.getD k 0 = a → ∃ j, j ∈ (List.range l.length).filter (ddB l) ∧ l.getD j 0 = a := by
      intro k
      induction k with
      | zero =>
        intro hk e
        exact ⟨0, List.mem_filter.mpr ⟨List.mem_range.mpr hk, rfl⟩, e⟩
      | succ k ih =>
        intro hk e
        by_cases c : l.getD (k + 1) 0 = l.getD k 0
        · exact ih (by omega) (by rw [← c]; exact e)
        · refine ⟨k + 1, List.mem_filter.mpr ⟨List.mem_range.mpr hk, ?_⟩, e⟩
          unfold ddB
          rw [Nat.add_sub_cancel, decide_eq_false c]
          simp
    exact key k hk (by rw [List.getD_eq_getElem?_getD, List.getElem?_eq_getElem hk]; exact e)
/-- sums over a range -/
def sumR (f : Nat → Nat) (n : Nat) : Nat := ((List.range n).map f).sum
theorem sumR_succ (f : Nat → Nat) (n : Nat) : sumR f (n + 1) = sumR f n + f n := by
  unfold sumR
  rw [List.range_succ, List.map_append, List.sum_append]
  simp
theorem sumR_congr {f h : Nat → Nat} : ∀ {n : Nat}, (∀ i, i < n → f i = h i) → sumR f n = sumR h n
  | 0, _ => rfl
  | n + 1, e => by rw [sumR_succ, sumR_succ, sumR_congr fun i hi => e i (by omega), e n (by omega)]
theorem sumR_le {f h : Nat → Nat} : ∀ {n : Nat}, (∀ i, i < n → f i ≤ h i) → sumR f n ≤ sumR h n
  | 0, _ => Nat.le_refl _
  | n + 1, e => by
    rw [sumR_succ, sumR_succ]
    have := sumR_le (f := f) (h := h) (n := n) fun i hi => e i (by omega)
    have := e n (by omega)
    omega
theorem sumR_ge {f : Nat → Nat} : ∀ {n k : Nat}, k < n → f k ≤ sumR f n
  | 0, _, h => absurd h (Nat.not_lt_zero _)
  | n + 1, k, h => by
    rw [sumR_succ]
    rcases Nat.lt_or_eq_of_le (Nat.le_of_lt_succ h) with z | z
    · have := sumR_ge (f := f) z
      omega
    · rw [z]; omega
theorem sumR_less {f h : Nat → Nat} : ∀ {n k : Nat}, (∀ i, i < n → f i ≤ h i) → k < n → f k = 0 → sumR f n + h k ≤ sumR h n
  | 0, _, _, h, _ => absurd h (Nat.not_lt_zero _)
  | n + 1, k, e, hk, z => by
    rw [sumR_succ, sumR_succ]
    rcases Nat.lt_or_eq_of_le (Nat.le_of_lt_succ hk) with y | y
    · have := sumR_less (f := f) (h := h) (n := n) (fun i hi => e i (by omega)) y z
      have := e n (by omega)
      omega
    · have := sumR_le (f := f) (h := h) (n := n) fun i hi => e i (by omega)
      subst y
      omega
theorem sumR_list {l : List Nat} {n : Nat} (hn : l.length = n) (f : Nat → Nat) : sumR (fun i => f (l.getD i 0)) n = (l.map f).sum := by
  unfold sumR
  subst hn
  congr 1
  refine List.ext_getElem (by simp) fun i h1 h2 => ?_
  simp at h1
  simp [h1]
theorem sum_pows : ∀ n, ((List.range n).map fun k => 2 ^ k).sum = 2 ^ n - 1
  | 0 => rfl
  | n + 1 => by
    rw [List.range_succ, List.map_append, List.sum_append, sum_pows n]
    have := Nat.two_pow_pos n
    simp
    omega
end Py

set_option Elab.async false
set_option linter.all false
set_option maxRecDepth 100000
set_option maxHeartbeats 4000000
namespace Py
open PySem L2

theorem sat_seqI {Q : Wq} {a b : Sx} {env : Fv} (I : Fv → Prop) (h1 : sat { nx := I, rt := Q.rt } (a env)) (h2 : ∀ e, I e → sat Q (b e)) : sat Q (S.seq a b env) := by
  rw [ev_seq, sat_k]
  exact sat_mono h1 h2 (fun _ z => z) (fun _ z => z.elim) (fun _ z => z.elim) (fun _ _ z => z.elim)
theorem sat_last {Q : Wq} {r : RS} (h : sat { rt := Q.rt } r) : sat Q r := sat_mono h (fun _ z => z.elim) (fun _ z => z) (fun _ z => z.elim) (fun _ z => z.elim) (fun _ _ z => z.elim)

/-! ### own dicts -/
section
variable {α : Type} {d i j c : Nat} {env : Fv} {t : T} {ts us : List T} {p q r : P.Ex1} {a : P.Ax} {f : Str} {ns : List Str} {g : Option Tag} {ks : List Kt} {s : Sx}
@[simp] theorem tSeq_tup {gs : List (T → Fv → Option Fv)} : S.tSeq gs (.tup ts) env = S.tNames gs ts env := nrfl rfl
@[simp] theorem tSeq_lst {gs : List (T → Fv → Option Fv)} : S.tSeq gs (.lst g ts) env = S.tNames gs ts env := nrfl rfl
@[simp] theorem ev_newD : S.newD i env = if i < env.length then .nx (env.set i (some (.od [] []))) else .stuck := nrfl rfl
def putJ (i : Nat) (env : Fv) (ks : List Kt) (ts : List T) (t y : T) : Option Kt → RS
  | some k => if t.fr = true ∧ y.fr = true ∧ ks.length < sizeLine then .nx (env.set i (some (.od (dputK ks ts k) (dputT ks ts k t)))) else .stuck
  | none => .stuck
def putK' (i : Nat) (q : P.Ex1) (m : Res T) (env : Fv) : Option (Option Sl) → RS
  | some (some (.od ks ts)) => m.thenY env fun t => (q env).thenY env fun y => putJ i env ks ts t y y.kt
  | _ => .stuck
@[simp] theorem ev_putD : S.putD i q p env = putK' i q (p env) env env[i]? := by
  unfold S.putD putK'
  rfl
@[simp] theorem putK_od {m : Res T} : putK' i q m env (some (some (.od ks ts))) = m.thenY env fun t => (q env).thenY env fun y => putJ i env ks ts t y y.kt := nrfl rfl
@[simp] theorem putJ_some {k : Kt} {y : T} : putJ i env ks ts t y (some k) = if t.fr = true ∧ y.fr = true ∧ ks.length < sizeLine then .nx (env.set i (some (.od (dputK ks ts k) (dputT ks ts k t)))) else .stuck := nrfl rfl
@[simp] theorem frzK_od : frzK i s env (some (some (.od ks ts))) = s (env.set i (some (.fz (.dct none ks ts)))) := nrfl rfl
@[simp] theorem ev_dget : P.dget p q r env = (p env).bind fun x => if isDct x = true then (q env).bind fun y => (r env).bind fun z => .of (T.dget x y z) else .stuck := nrfl rfl
@[simp] theorem isDct_dct : isDct (.dct g ks ts) = true := nrfl rfl
@[simp] theorem dget_dct {y z : T} : T.dget (.dct g ks ts) y z = y.kt.map fun k => (dval ks ts k).getD z := nrfl rfl
@[simp] theorem dix_dct {y : T} : T.dix (.dct g ks ts) y = y.kt.bind fun k => dval ks ts k := nrfl rfl
@[simp] theorem B_listD : B.listD [.dct g ks ts] = some (.lst none (ks.map ktT)) := nrfl rfl
@[simp] theorem kt_tup2 {x y : Int} : T.kt (.tup [.int x, .int y]) = some [.inl x, .inl y] := nrfl rfl
end
/-- the numbers kept by pairs -/
abbrev KV := List ((Nat × Nat) × Nat)
def pK (k : Nat × Nat) : Kt := [.inl (k.1 : Int), .inl (k.2 : Int)]
theorem pK_inj {a b : Nat × Nat} (h : pK a = pK b) : a = b := by
  obtain ⟨a1, a2⟩ := a
  obtain ⟨b1, b2⟩ := b
  unfold pK at h
  simp only [List.cons.injEq, Sum.inl.injEq, and_true] at h
  have h1 : a1 = b1 := by omega
  have h2 : a2 = b2 := by omega
  rw [h1, h2]
def kvK (m : KV) : List Kt := m.map fun e => pK e.1
def kvT (m : KV) : List T := m.map fun e => nT e.2
def kvget : KV → (Nat × Nat) → Option Nat
  | [], _ => none
  | e :: m, k => if e.1 = k then some e.2 else kvget m k
def kvrep : KV → (Nat × Nat) → Nat → KV
  | [], _, _ => []
  | e :: m, k, v => (e.1, if e.1 = k then v else e.2) :: kvrep m k v
def kvput (m : KV) (k : Nat × Nat) (v : Nat) : KV := if (kvget m k).isSome = true then kvrep m k v else m ++ [(k, v)]
def kvadd (m : KV) (k : Nat × Nat) (l : Nat) : KV := kvput m k ((kvget m k).getD 0 + l)
theorem dval_kv (k : Nat × Nat) : ∀ m : KV, dval (kvK m) (kvT m) (pK k) = (kvget m k).map nT
  | [] => rfl
  | e :: m => by
    show (if pK e.1 = pK k then some (nT e.2) else dval (kvK m) (kvT m) (pK k)) = _
    unfold kvget
    by_cases h : e.1 = k
    · rw [if_pos (by rw [h]), if_pos h]; rfl
    · rw [if_neg (fun z => h (pK_inj z)), if_neg h, dval_kv k m]
theorem drep_kv (k : Nat × Nat) (v : Nat) : ∀ m : KV, drep (kvK m) (kvT m) (pK k) (nT v) = kvT (kvrep m k v) ∧ kvK m = kvK (kvrep m k v)
  | [] => ⟨rfl, rfl⟩
  | e :: m => by
    obtain ⟨h1, h2⟩ := drep_kv k v m
    constructor
    · show (if pK e.1 = pK k then nT v else nT e.2) :: drep (kvK m) (kvT m) (pK k) (nT v) = nT (if e.1 = k then v else e.2) :: kvT (kvrep m k v)
      rw [h1]
      by_cases h : e.1 = k
      · rw [if_pos (by rw [h]), if_pos h]
      · rw [if_neg (fun z => h (pK_inj z)), if_neg h]
    · show pK e.1 :: kvK m = pK e.1 :: kvK (kvrep m k v)
      rw [h2]
theorem dput_kv (m : KV) (k : Nat × Nat) (v : Nat) : dputK (kvK m) (kvT m) (pK k) = kvK (kvput m k v) ∧ dputT (kvK m) (kvT m) (pK k) (nT v) = kvT (kvput m k v) := by
  unfold dputK dputT kvput
  rw [dval_kv]
  cases z : kvget m k with
  | none => exact ⟨by simp [kvK], by simp [kvT]⟩
  | some w => exact ⟨(drep_kv k v m).2, (drep_kv k v m).1⟩
def kvkeys (m : KV) : List (Nat × Nat) := m.map (·.1)
theorem kvrep_keys (k : Nat × Nat) (v : Nat) : ∀ m : KV, kvkeys (kvrep m k v) = kvkeys m
  | [] => rfl
  | e :: m => by
    show e.1 :: kvkeys (kvrep m k v) = e.1 :: kvkeys m
    rw [kvrep_keys k v m]
theorem kvget_none {k : Nat × Nat} : ∀ {m : KV}, kvget m k = none ↔ k ∉ kvkeys m
  | [] => by simp [kvget, kvkeys]
  | e :: m => by
    have ih := kvget_none (k := k) (m := m)
    unfold kvget kvkeys
    by_cases h : e.1 = k
    · rw [if_pos h]; simp [h]
    · rw [if_neg h, ih]
      unfold kvkeys
      simp [Ne.symm h, eq_comm]
theorem kvput_keys (m : KV) (k : Nat × Nat) (v : Nat) : kvkeys (kvput m k v) = if k ∈ kvkeys m then kvkeys m else kvkeys m ++ [k] := by
  unfold kvput
  by_cases h : k ∈ kvkeys m
  · have : (kvget m k).isSome = true := by
      cases z : kvget m k with
      | none => exact absurd h (kvget_none.mp z)
      | some w => rfl
    rw [if_pos this, if_pos h, kvrep_keys]
  · rw [if_neg h, kvget_none.mpr h, if_neg (by simp)]
    simp [kvkeys]
theorem kvput_nodup {m : KV} {k : Nat × Nat} {v : Nat} (h : (kvkeys m).Nodup) : (kvkeys (kvput m k v)).Nodup := by
  rw [kvput_keys]
  split
  · exact h
  · rename_i hn
    rw [List.nodup_append]
    refine ⟨h, by simp, ?_⟩
    intro a ha b hb e
    rw [List.mem_singleton] at hb
    subst hb
    exact hn (e ▸ ha)
/-- a weighted sum -/
def wsum (φ : Nat × Nat → Nat) (m : KV) : Nat := (m.map fun e => φ e.1 * e.2).sum
theorem wsum_rep (φ : Nat × Nat → Nat) (k : Nat × Nat) (l : Nat) : ∀ {m : KV} {w : Nat}, (kvkeys m).Nodup → kvget m k = some w → wsum φ (kvrep m k (w + l)) = wsum φ m + φ k * l
  | [], _, _, h => by cases h
  | e :: m, w, hn, h => by
    have h' : (if e.1 = k then some e.2 else kvget m k) = some w := h
    have hn' : e.1 ∉ kvkeys m ∧ (kvkeys m).Nodup := List.nodup_cons.mp hn
    show φ e.1 * (if e.1 = k then w + l else e.2) + wsum φ (kvrep m k (w + l)) = φ e.1 * e.2 + wsum φ m + φ k * l
    by_cases c : e.1 = k
    · rw [if_pos c] at h' ⊢
      cases h'
      have e2 : ∀ m : KV, k ∉ kvkeys m → kvrep m k (e.2 + l) = m := fun m => by
        induction m with
        | nil => intro _; rfl
        | cons x m ih =>
          intro hx
          have h1 : ¬ x.1 = k := fun z => hx (by show k ∈ x.1 :: kvkeys m; rw [z]; exact List.mem_cons_self)
          have h2 : k ∉ kvkeys m := fun z => hx (List.mem_cons_of_mem _ z)
          show (x.1, if x.1 = k then e.2 + l else x.2) :: kvrep m k (e.2 + l) = x :: m
          rw [if_neg h1, ih h2]
      rw [e2 m (c ▸ hn'.1), c, Nat.mul_add]
      omega
    · rw [if_neg c] at h' ⊢
      rw [wsum_rep φ k l hn'.2 h']
      omega
theorem wsum_add (φ : Nat × Nat → Nat) {m : KV} (k : Nat × Nat) (l : Nat) (h : (kvkeys m).Nodup) : wsum φ (kvadd m k l) = wsum φ m + φ k * l := by
  unfold kvadd kvput
  cases z : kvget m k with
  | none =>
    rw [if_neg (by simp)]
    unfold wsum
    simp
  | some w =>
    rw [if_pos (show (some w).isSome = true from rfl)]
    exact wsum_rep φ k l h z
theorem kvget_mem {k : Nat × Nat} {w : Nat} : ∀ {m : KV}, (kvkeys m).Nodup → ((k, w) ∈ m ↔ kvget m k = some w)
  | [], _ => by simp [kvget]
  | e :: m, hn => by
    have hn' : e.1 ∉ kvkeys m ∧ (kvkeys m).Nodup := List.nodup_cons.mp hn
    have ih := kvget_mem (k := k) (w := w) hn'.2
    unfold kvget
    by_cases c : e.1 = k
    · rw [if_pos c, List.mem_cons]
      constructor
      · rintro (rfl | h)
        · rfl
        · exact absurd (show e.1 ∈ kvkeys m by rw [c]; exact List.mem_map.mpr ⟨_, h, rfl⟩) hn'.1
      · intro h
        left
        cases h
        rw [← c]
    · rw [if_neg c, List.mem_cons, ih]
      constructor
      · rintro (rfl | h)
        · exact absurd rfl c
        · exact h
      · exact Or.inr
/-- the pairs put in order -/
def p2I (k : Nat × Nat) : Int × Int := ((k.1 : Int), (k.2 : Int))
def psN (l : List (Nat × Nat)) : List (Nat × Nat) := (psrt (l.map p2I)).map fun p => (p.1.toNat, p.2.toNat)
theorem psN_perm (l : List (Nat × Nat)) : (psN l).Perm l := by
  have h := (psrt_perm (l.map p2I)).map fun p : Int × Int => (p.1.toNat, p.2.toNat)
  rw [List.map_map] at h
  have e : ((fun p : Int × Int => (p.1.toNat, p.2.toNat)) ∘ p2I) = id := by
    funext k
    rfl
  rw [e, List.map_id] at h
  exact h
theorem psN_eq (l : List (Nat × Nat)) : psrt (l.map p2I) = (psN l).map p2I := by
  unfold psN
  rw [List.map_map]
  refine (List.map_id _).symm.trans (List.map_congr_left fun x hx => ?_)
  obtain ⟨k, _, rfl⟩ := List.mem_map.mp ((psrt_perm _).mem_iff.mp hx)
  rfl
theorem sorted_keys (m : KV) (g : Option Tag) : B.sortedP [.lst g ((kvK m).map ktT)] = some (.lst none ((psN (kvkeys m)).map fun k => .tup [nT k.1, nT k.2])) := by
  have e1 : ∀ l : List (Nat × Nat), prB (l.map fun k => T.tup [nT k.1, nT k.2]) = some (l.map p2I) := fun l => by
    induction l with
    | nil => rfl
    | cons x l ih =>
      rw [List.map_cons]
      unfold prB
      rw [ih]
      rfl
  have e2 : (kvK m).map ktT = (kvkeys m).map fun k => T.tup [nT k.1, nT k.2] := by
    unfold kvK kvkeys
    rw [List.map_map, List.map_map]
    rfl
  rw [e2]
  show (match prB ((kvkeys m).map fun k => T.tup [nT k.1, nT k.2]) with
    | some l => some (T.lst none ((psrt l).map prT2))
    | none => none) = _
  rw [e1]
  show some (T.lst none ((psrt ((kvkeys m).map p2I)).map prT2)) = _
  rw [psN_eq, List.map_map]
  rfl
/-- the sum over sorted keys -/
theorem wsum_sorted (φ : Nat × Nat → Nat) {m : KV} (hn : (kvkeys m).Nodup) : ((psN (kvkeys m)).map fun k => φ k * (kvget m k).getD 0).sum = wsum φ m := by
  rw [((psN_perm (kvkeys m)).map _).sum_nat]
  unfold wsum kvkeys
  rw [List.map_map]
  congr 1
  refine List.map_congr_left fun e he => ?_
  have : kvget m e.1 = some e.2 := (kvget_mem hn).mp he
  show φ e.1 * (kvget m e.1).getD 0 = _
  rw [this]
  rfl
end Py

set_option Elab.async false
set_option linter.all false
set_option maxRecDepth 100000
set_option maxHeartbeats 4000000
namespace Py
open PySem L2

/-! ### generators -/
def GR.k (r : GR) (h : Gx) : GR := match r with
  | .nx ys env => h ys env
  | r => r
def plK (ys : List T) : RS → GR
  | .nx env => .nx ys env
  | .br env => .br ys env
  | .ct env => .ct ys env
  | .rt .non => .rt ys
  | _ => .stuck
def ydK (ys : List T) (env : Fv) : Res T → GR
  | .ok t => if flat t = true then .nx (ys ++ [t]) env else .stuck
  | _ => .stuck
section
variable {ys : List T} {env : Fv} {s : Sx} {g h : Gx} {p : P.Ex1} {t : T} {f : List T → Res (List T)} {a : P.Ax}
@[simp] theorem ev_plain : Yl.plain s ys env = plK ys (s env) := by
  unfold Yl.plain plK
  cases s env <;> rfl
@[simp] theorem plK_nx : plK ys (.nx env) = .nx ys env := nrfl rfl
@[simp] theorem plK_ct : plK ys (.ct env) = .ct ys env := nrfl rfl
@[simp] theorem ev_yskip : Yl.skip ys env = .nx ys env := nrfl rfl
@[simp] theorem ev_yseq : Yl.seq g h ys env = GR.k (g ys env) h := nrfl rfl
@[simp] theorem gk_nx : GR.k (.nx ys env) h = h ys env := nrfl rfl
@[simp] theorem ev_yield : Yl.yield p ys env = if ys.length < sizeLine then ydK ys env (p env) else .stuck := by
  unfold Yl.yield ydK
  rfl
@[simp] theorem ydK_ok : ydK ys env (.ok t) = if flat t = true then .nx (ys ++ [t]) env else .stuck := nrfl rfl
@[simp] theorem gk_ite {z : Prop} [Decidable z] {x y : GR} : GR.k (if z then x else y) h = if z then GR.k x h else GR.k y h := by split <;> rfl
@[simp] theorem ev_listG : P.listG f a env = (a env).bind fun xs => lstG (f xs) := nrfl rfl
@[simp] theorem lstG_ok : lstG (.ok ys) = .ok (.lst none ys) := nrfl rfl
end
/-! ### the lots within a lot -/
namespace LL
def G_sub_lots (d : Nat) : Gx :=
  Yl.seq (Yl.plain (S.asg 1 (P.c (.int 0))))
  (Yl.seq (Yl.while_ (P.tb (P.bin T.ne (P.var d 1) (P.var d 0)))
  (Yl.seq (Yl.yield (P.var d 1))
  (Yl.seq (Yl.plain (S.asg 1 (P.bin T.band (P.bin T.sub (P.var d 1) (P.var d 0)) (P.var d 0))))
  Yl.skip)) fuel)
  (Yl.seq (Yl.yield (P.var d 0))
  Yl.skip))
def f_sub_lots (d : Nat) (ts : List T) : Res (List T) := runG 2 (G_sub_lots d) ts
end LL
theorem and_shift (A B g : Nat) : (A * 2 ^ g) &&& (B * 2 ^ g + (2 ^ g - 1)) = (A &&& B) * 2 ^ g := by
  apply Nat.eq_of_testBit_eq
  intro i
  have hp := Nat.two_pow_pos g
  rw [Nat.testBit_and, Nat.testBit_mul_two_pow, Nat.testBit_mul_two_pow]
  by_cases h : g ≤ i
  · rw [decide_eq_true h, Bool.true_and, Bool.true_and, Nat.testBit_and]
    congr 1
    have e : i = g + (i - g) := by omega
    rw [show (B * 2 ^ g + (2 ^ g - 1)).testBit i = ((B * 2 ^ g + (2 ^ g - 1)) >>> g).testBit (i - g) by rw [Nat.testBit_shiftRight, ← e]]
    congr 1
    rw [Nat.shiftRight_eq_div_pow, Nat.mul_comm, Nat.mul_add_div hp, Nat.div_eq_of_lt (by omega), Nat.add_zero]
  · rw [decide_eq_false h, Bool.false_and, Bool.false_and, Bool.false_and]
theorem low_and {r m : Nat} (h : r < 2 ^ m) : (2 ^ m - 1) &&& r = r := by
  rw [Nat.and_comm, Nat.and_two_pow_sub_one_eq_mod, Nat.mod_eq_of_lt h]
theorem sub_next {g m k : Nat} (hk : k + 1 < 2 ^ m) : Builtin.bitAnd (((k * 2 ^ g : Nat) : Int) - (((2 ^ m - 1) * 2 ^ g : Nat) : Int)) (((2 ^ m - 1) * 2 ^ g : Nat) : Int) = (((k + 1) * 2 ^ g : Nat) : Int) := by
  have hp := Nat.two_pow_pos g
  obtain ⟨r, hr⟩ : ∃ r, 2 ^ m - 1 = k + (r + 1) := ⟨2 ^ m - 1 - k - 1, by omega⟩
  have e0 : (2 ^ m - 1) * 2 ^ g = k * 2 ^ g + (r * 2 ^ g + 2 ^ g) := by rw [hr, Nat.add_mul, Nat.add_mul, Nat.one_mul]
  have e1 : ((k * 2 ^ g : Nat) : Int) - (((2 ^ m - 1) * 2 ^ g : Nat) : Int) = Builtin.bitNot ((r * 2 ^ g + (2 ^ g - 1) : Nat) : Int) := by
    rw [e0]
    unfold Builtin.bitNot
    omega
  have e2 : ∀ x y : Int, y < 0 → 0 ≤ x → Builtin.bitAnd y x = x - ((x.toNat &&& (Builtin.bitNot y).toNat : Nat) : Int) := fun x y h1 h2 => by
    unfold Builtin.bitAnd
    rw [decide_eq_false (by omega), decide_eq_true h2]
  rw [e1, e2 _ _ (by unfold Builtin.bitNot; omega) (by omega)]
  have e3 : Builtin.bitNot (Builtin.bitNot ((r * 2 ^ g + (2 ^ g - 1) : Nat) : Int)) = ((r * 2 ^ g + (2 ^ g - 1) : Nat) : Int) := by
    unfold Builtin.bitNot
    omega
  rw [e3, Int.toNat_natCast, Int.toNat_natCast, and_shift, low_and (by omega), e0, Nat.add_mul, Nat.one_mul]
  omega
theorem sub_while (d g m : Nat) (hm : m ≤ 19) : ∀ (j k f : Nat), k + j = 2 ^ m - 1 → j < f →
    Yl.while_ (P.tb (P.bin T.ne (P.var d 1) (P.var d 0))) (Yl.seq (Yl.yield (P.var d 1)) (Yl.seq (Yl.plain (S.asg 1 (P.bin T.band (P.bin T.sub (P.var d 1) (P.var d 0)) (P.var d 0)))) Yl.skip)) f
      ((List.range k).map fun p => nT (p * 2 ^ g)) [some (.fz (nT ((2 ^ m - 1) * 2 ^ g))), some (.fz (nT (k * 2 ^ g)))] = .nx ((List.range (2 ^ m - 1)).map fun p => nT (p * 2 ^ g)) [some (.fz (nT ((2 ^ m - 1) * 2 ^ g))), some (.fz (nT ((2 ^ m - 1) * 2 ^ g)))]
  | _, _, 0, _, hf => absurd hf (Nat.not_lt_zero _)
  | 0, k, f + 1, hk, _ => by
    rw [Nat.add_zero] at hk
    subst hk
    unfold Yl.while_
    simp
  | j + 1, k, f + 1, hk, hf => by
    have ih := sub_while d g m hm j (k + 1) f (by omega) (by omega)
    have hp := Nat.two_pow_pos g
    have hne : ¬ (((k * 2 ^ g : Nat) : Int)) = (((2 ^ m - 1) * 2 ^ g : Nat) : Int) := by
      intro z
      have z' : k * 2 ^ g = (2 ^ m - 1) * 2 ^ g := by exact_mod_cast z
      have := Nat.eq_of_mul_eq_mul_right hp z'
      omega
    have hz : k < sizeLine := by
      have : 2 ^ m ≤ 2 ^ 19 := Nat.pow_le_pow_right (by omega) hm
      exact Nat.lt_of_lt_of_le (show k < 1000000 by omega) (by decide)
    have hn := sub_next (g := g) (m := m) (k := k) (by omega)
    rw [List.range_succ, List.map_append, List.map_cons, List.map_nil] at ih
    unfold Yl.while_
    generalize hL : (2 ^ m - 1) * 2 ^ g = L at *
    generalize hS : (List.range (2 ^ m - 1)).map (fun p => nT (p * 2 ^ g)) = R at *
    have hl : ((List.range k).map fun p => nT (p * 2 ^ g)).length = k := by simp
    generalize (List.range k).map (fun p => nT (p * 2 ^ g)) = Y at *
    generalize (k + 1) * 2 ^ g = b at *
    generalize k * 2 ^ g = a at *
    simp [hl, hz, hne, hn]
    exact ih
theorem sublots_ev (d g m : Nat) (hm : m ≤ 19) : LL.f_sub_lots d [nT ((2 ^ m - 1) * 2 ^ g)] = .ok ((List.range (2 ^ m)).map fun p => nT (p * 2 ^ g)) := by
  have hw := sub_while d g m hm (2 ^ m - 1) 0 fuel (by omega) (by
    have : 2 ^ m ≤ 2 ^ 19 := Nat.pow_le_pow_right (by omega) hm
    exact Nat.lt_of_lt_of_le (show 2 ^ m - 1 < 1000000 by omega) (by decide))
  have hz : 2 ^ m - 1 < sizeLine := by
    have : 2 ^ m ≤ 2 ^ 19 := Nat.pow_le_pow_right (by omega) hm
    exact Nat.lt_of_lt_of_le (show 2 ^ m - 1 < 1000000 by omega) (by decide)
  have e1 : 2 ^ m = 2 ^ m - 1 + 1 := by have := Nat.two_pow_pos m; omega
  have hl : ((List.range (2 ^ m - 1)).map fun p => nT (p * 2 ^ g)).length = 2 ^ m - 1 := by simp
  rw [show (List.range (2 ^ m)).map (fun p => nT (p * 2 ^ g)) = (List.range (2 ^ m - 1)).map (fun p => nT (p * 2 ^ g)) ++ [nT ((2 ^ m - 1) * 2 ^ g)] by
    rw [show List.range (2 ^ m) = List.range (2 ^ m - 1 + 1) by rw [← e1], List.range_succ, List.map_append]
    rfl]
  rw [Nat.zero_mul] at hw
  have hw' : Yl.while_ (P.tb (P.bin T.ne (P.var d 1) (P.var d 0))) (Yl.seq (Yl.yield (P.var d 1)) (Yl.seq (Yl.plain (S.asg 1 (P.bin T.band (P.bin T.sub (P.var d 1) (P.var d 0)) (P.var d 0)))) Yl.skip)) fuel [] [some (.fz (nT ((2 ^ m - 1) * 2 ^ g))), some (.fz (.int 0))] = _ := hw
  unfold LL.f_sub_lots runG
  rw [show ent 2 [nT ((2 ^ m - 1) * 2 ^ g)] = [some (.fz (nT ((2 ^ m - 1) * 2 ^ g))), none] from rfl]
  unfold LL.G_sub_lots
  generalize (List.range (2 ^ m - 1)).map (fun p => nT (p * 2 ^ g)) = Y at *
  generalize (2 ^ m - 1) * 2 ^ g = L at *
  simp [hw', hl, hz]
/-! ### the least of a list -/
def mnL : List Nat → Nat
  | [] => 0
  | [x] => x
  | x :: xs => min x (mnL xs)
theorem mnL_of : ∀ {l : List Nat}, l ≠ [] → mnL l ∈ l ∧ ∀ y ∈ l, mnL l ≤ y
  | [], h => absurd rfl h
  | [x], _ => ⟨by simp [mnL], by simp [mnL]⟩
  | x :: y :: l, _ => by
    obtain ⟨h1, h2⟩ := mnL_of (l := y :: l) (by simp)
    have e : mnL (x :: y :: l) = min x (mnL (y :: l)) := rfl
    rw [e]
    refine ⟨?_, fun z hz => ?_⟩
    · rcases Nat.le_total x (mnL (y :: l)) with c | c
      · rw [Nat.min_eq_left c]; exact List.mem_cons_self
      · rw [Nat.min_eq_right c]; exact List.mem_cons_of_mem _ h1
    · rcases List.mem_cons.mp hz with rfl | hz
      · exact Nat.min_le_left _ _
      · exact Nat.le_trans (Nat.min_le_right _ _) (h2 z hz)
theorem mnL_unique {l : List Nat} {a : Nat} (h1 : a ∈ l) (h2 : ∀ y ∈ l, a ≤ y) : a = mnL l := by
  obtain ⟨h3, h4⟩ := mnL_of (l := l) (List.ne_nil_of_mem h1)
  exact Nat.le_antisymm (h2 _ h3) (h4 _ h1)
theorem mnL_perm {l m : List Nat} (h : l.Perm m) : mnL l = mnL m := by
  by_cases c : l = []
  · subst c
    rw [List.nil_perm.mp h]
  · obtain ⟨h3, h4⟩ := mnL_of c
    exact mnL_unique (h.mem_iff.mp h3) fun y hy => h4 y (h.mem_iff.mpr hy)
theorem min_nats {l : List Nat} (g : Option Tag) (h : l ≠ []) : B.minL [.lst g (l.map nT)] = some (nT (mnL l)) := by
  have e : ∀ l : List Nat, l ≠ [] → lmin (l.map fun (x : Nat) => (x : Int)) = some (mnL l : Nat) := fun l => by
    induction l with
    | nil => intro h; exact absurd rfl h
    | cons x l ih =>
      intro _
      cases l with
      | nil => rfl
      | cons y l =>
        have := ih (by simp)
        rw [List.map_cons]
        unfold lmin
        rw [this]
        show some (min (x : Int) (mnL (y :: l) : Nat)) = some ((min x (mnL (y :: l)) : Nat) : Int)
        congr 1
        omega
  unfold B.minL
  show (match B.nums (l.map nT) with
    | some l => (lmin l).map T.int
    | none => none) = _
  rw [nums_nats]
  show (lmin (l.map fun (x : Nat) => (x : Int))).map T.int = _
  rw [e l h]
  rfl
end Py

set_option Elab.async false
set_option linter.all false
set_option maxRecDepth 100000
set_option maxHeartbeats 4000000
namespace Py
open PySem L2

/-! ### names -/
namespace LL
def f_digits (d : Nat) (ts : List T) : Res T := run 8 (S_digits d) ts
def S_words (d : Nat) : Sx :=
  S.seq (S.asg 2 (P.call (f_digits (d + 1)) (P.cons (P.var d 0) (P.cons (P.bin T.add (P.lst (P.cons (P.c (.int 12)) (P.cons (P.c (.int 12)) P.nil))) (P.bin T.mul (P.lst (P.cons (P.c (.int 36)) P.nil)) (P.c (.int 12)))) P.nil))))
  (S.seq (S.asg 3 (P.bin T.add (P.c (.int 1)) (P.bin T.ix (P.var d 2) (P.c (.int 0)))))
  (S.seq (S.asg 4 (P.bin T.mod (P.call (fun ts => .of (B.int ts)) (P.cons (P.bin T.ix (P.var d 2) (P.c (.int 1))) P.nil)) (P.var d 3)))
  (S.seq (S.asg 5 (P.c (.str "abcdefghijklmnopqrstuvwxyz")))
  (S.seq (S.asg 6 (P.c (.str "abcdefghijklmnopqrstuvwxyz0123456789")))
  (S.seq (S.new 7 (lfits P.nil))
  (S.seq (S.forX (S.tName 8) (P.rng1 (P.cons (P.var d 1) P.nil))
  (S.seq (S.asg 9 (P.c (.str "")))
  (S.seq (S.forX (S.tName 10) (P.rng1 (P.cons (P.var d 3) P.nil))
  (S.seq (S.asg 11 (P.bin T.ix (P.var d 6) (P.bin T.mod (P.call (fun ts => .of (B.int ts)) (P.cons (P.bin T.add (P.bin T.ix (P.var d 2) (P.bin T.add (P.c (.int 2)) (P.var d 10))) (P.bin T.mul (P.var d 8) (P.bin T.add (P.var d 10) (P.c (.int 1))))) P.nil)) (P.c (.int 36)))))
  (S.seq (S.ite (P.and (P.tb (P.bin T.eq (P.var d 10) (P.c (.int 0)))) (P.tb (P.bin (T.isInT true) (P.var d 11) (P.var d 5))))
  (S.asg 11 (P.c (.str "q")))
  S.skip)
  (S.seq (S.ite (P.tb (P.bin T.eq (P.var d 10) (P.var d 4)))
  (S.asg 11 (P.bin T.ix (P.var d 5) (P.var d 8)))
  S.skip)
  (S.asg 9 (P.bin T.add (P.var d 9) (P.var d 11)))))))
  (S.app 7 (P.var d 9)))))
  (S.frz 7 (S.ret (P.var d 7)))))))))
def f_words (d : Nat) (ts : List T) : Res T := run 12 (S_words d) ts
def S_is_name (d : Nat) : Sx :=
  S.seq (S.ite (P.or (P.not (P.tb (P.un (T.isi "str") (P.var d 0)))) (P.or (P.tb (P.bin T.lt (P.call (fun ts => .of (B.len ts)) (P.cons (P.var d 0) P.nil)) (P.c (.int 1)))) (P.tb (P.bin T.gt (P.call (fun ts => .of (B.len ts)) (P.cons (P.var d 0) P.nil)) (P.c (.int 12))))))
  (S.ret (P.c (.bl false)))
  S.skip)
  (S.seq (S.ite (P.tb (P.bin (T.isInT true) (P.bin T.ix (P.var d 0) (P.c (.int 0))) (P.c (.str "abcdefghijklmnopqrstuvwxyz"))))
  (S.ret (P.c (.bl false)))
  S.skip)
  (S.seq (S.for_ (S.tName 1) (P.signs (P.var d 0))
  (S.ite (P.tb (P.bin (T.isInT true) (P.var d 1) (P.c (.str "abcdefghijklmnopqrstuvwxyz0123456789"))))
  (S.ret (P.c (.bl false)))
  S.skip))
  (S.ret (P.c (.bl true)))))
def f_is_name (d : Nat) (ts : List T) : Res T := run 2 (S_is_name d) ts
end LL
/-- the code of a sign -/
def sgc (i : Nat) : Nat := if i < 26 then 97 + i else 22 + i
/-- a text of codes -/
def strL (l : List Nat) : Str := ⟨l.toArray⟩
theorem strL_inj {a b : List Nat} (h : strL a = strL b) : a = b := by
  have := congrArg (fun s : Str => s.cps.toList) h
  exact this
def letS : Str := "abcdefghijklmnopqrstuvwxyz"
def sigS : Str := "abcdefghijklmnopqrstuvwxyz0123456789"
theorem letS_eq : letS = strL ((List.range 26).map sgc) := by decide +kernel
theorem sigS_eq : sigS = strL ((List.range 36).map sgc) := by decide +kernel
theorem q_eq : ("q" : Str) = strL [sgc 16] := by decide +kernel
theorem e_eq : ("" : Str) = strL [] := by decide +kernel
theorem in_let : ∀ i, i < 36 → (Builtin.Str.occurrences letS (strL [sgc i]) 0 letS.length 1).isEmpty = decide (26 ≤ i) := by decide +kernel
theorem in_sig : ∀ i, i < 36 → (Builtin.Str.occurrences sigS (strL [sgc i]) 0 sigS.length 1).isEmpty = false := by decide +kernel
theorem isIn_let {i : Nat} (h : i < 36) : T.isInT true (.str (strL [sgc i])) (.str letS) = some (.bl (decide (26 ≤ i))) := by
  have e : T.isInT true (.str (strL [sgc i])) (.str letS) = some (.bl (!(!(Builtin.Str.occurrences letS (strL [sgc i]) 0 letS.length 1).isEmpty))) := rfl
  rw [e, in_let i h, Bool.not_not]
theorem isIn_sig {i : Nat} (h : i < 36) : T.isInT true (.str (strL [sgc i])) (.str sigS) = some (.bl false) := by
  have e : T.isInT true (.str (strL [sgc i])) (.str sigS) = some (.bl (!(!(Builtin.Str.occurrences sigS (strL [sgc i]) 0 sigS.length 1).isEmpty))) := rfl
  rw [e, in_sig i h]
  rfl
theorem strL_len (l : List Nat) : (strL l).length = l.length := by
  show l.toArray.size = l.length
  simp
theorem ix_str {l : List Nat} {k : Nat} (hk : k < l.length) (hl : l.length ≤ 1000000) : T.ix (.str (strL l)) (nT k) = some (.str (strL [l[k]])) := by
  show (if lfit (strL l).length = true then (atI (strL l).cps.toList (k : Int)).map fun c => T.str ⟨#[c]⟩ else none) = _
  rw [strL_len, if_pos (lfit_ok hl)]
  have e : (strL l).cps.toList = l := rfl
  rw [e, atI_nat hk, List.getElem?_eq_getElem hk]
  rfl
theorem ix_sig {k : Nat} (hk : k < 36) : T.ix (.str sigS) (nT k) = some (.str (strL [sgc k])) := by
  rw [sigS_eq, ix_str (by simp; omega) (by simp)]
  simp
theorem ix_let {k : Nat} (hk : k < 26) : T.ix (.str letS) (nT k) = some (.str (strL [sgc k])) := by
  rw [letS_eq, ix_str (by simp; omega) (by simp)]
  simp
theorem add_str {a b : List Nat} (h : a.length + b.length ≤ 1000000) : T.add (.str (strL a)) (.str (strL b)) = some (.str (strL (a ++ b))) := by
  show (if lfit ((strL a).length + (strL b).length) = true then some (T.str (strL a ++ strL b)) else none) = _
  rw [strL_len, strL_len, if_pos (lfit_ok h)]
  congr 2
  show (⟨a.toArray ++ b.toArray⟩ : Str) = ⟨(a ++ b).toArray⟩
  congr 1
  simp
theorem len_str {a : List Nat} (h : a.length ≤ 1000000) : B.len [.str (strL a)] = some (nT a.length) := by
  show (if lfit (strL a).length = true then some (T.int ((strL a).length : Nat)) else none) = _
  rw [strL_len, if_pos (lfit_ok h)]
/-- the signs of a name, by their places among the signs -/
structure Nm (l : List Nat) : Prop where
  lo : 1 ≤ l.length
  hi : l.length ≤ 12
  sg : ∀ i ∈ l, i < 36
  fst : ∀ i, l[0]? = some i → i < 26
def nmT (l : List Nat) : T := .str (strL (l.map sgc))
theorem sgc_inj : ∀ i, i < 36 → ∀ j, j < 36 → sgc i = sgc j → i = j := by decide
theorem is_name_ev (d : Nat) {l : List Nat} (h : Nm l) : LL.f_is_name d [nmT l] = .ok (.bl true) := by
  have h1 := h.lo
  have h2 := h.hi
  have hl := len_str (a := l.map sgc) (by simp; omega)
  have h0 := ix_str (l := l.map sgc) (k := 0) (by simp; omega) (by simp; omega)
  have e0 : (l.map sgc)[0]'(by simp; omega) = sgc (l[0]'(by omega)) := by simp
  have hf := h.fst _ (List.getElem?_eq_getElem (show 0 < l.length by omega))
  have hi := isIn_let (i := l[0]'(by omega)) (by omega)
  rw [e0] at h0
  rw [decide_eq_false (by omega)] at hi
  have h0' : T.ix (.str (strL (l.map sgc))) (.int 0) = _ := h0
  have k1 : ¬ ((l.length : Int) < 1) := by omega
  have k2 : ¬ ((12 : Int) < l.length) := by omega
  rw [List.length_map] at hl
  unfold LL.f_is_name
  refine run_is ?_
  rw [show ent 2 [nmT l] = [some (.fz (nmT l)), none] from rfl]
  unfold LL.S_is_name nmT
  have is1 : kitB "str" "str" = some true := ks3
  have es : T.signs (.str (strL (l.map sgc))) = some (l.map fun i => .str (strL [sgc i])) := by
    show some (((strL (l.map sgc)).cps.toList).map fun c => T.str ⟨#[c]⟩) = _
    rw [show (strL (l.map sgc)).cps.toList = l.map sgc from rfl, List.map_map]
    rfl
  have ev : ∀ env : Fv, P.signs (P.var d 0) env = (P.var d 0 env).bind fun t => .of t.signs := fun _ => rfl
  refine sat_seqI (fun e => e = [some (.fz (.str (strL (l.map sgc)))), none]) (by simp [is1, hl, k1, k2]) ?_
  rintro e rfl
  refine sat_seqI (fun e => e = [some (.fz (.str (strL (l.map sgc)))), none]) (by
    have hi' : T.isInT true (.str (strL [sgc (l[0]'(by omega))])) (.str "abcdefghijklmnopqrstuvwxyz") = some (.bl false) := hi
    simp [h0', hi']) ?_
  rintro e rfl
  refine sat_seqI (fun e => True) (by
    rw [ev_for, ev]
    simp [es]
    refine sat_map (fun _ e => ∃ o, e = [some (.fz (.str (strL (l.map sgc)))), o]) ⟨none, rfl⟩ ?_ (fun _ _ => trivial)
    rintro k i e hk ⟨o, rfl⟩
    have hs : T.isInT true (.str (strL [sgc i])) (.str "abcdefghijklmnopqrstuvwxyz0123456789") = some (.bl false) := isIn_sig (h.sg i (List.mem_of_getElem? hk))
    refine ⟨_, rfl, ?_⟩
    simp [hs]) ?_
  rintro e -
  simp

/-- what a law draws as names -/
structure Nms (n : Nat) (L : List (List Nat)) : Prop where
  len : L.length = n
  ok : ∀ l ∈ L, Nm l
  nd : L.Nodup
theorem words_ev (d n : Nat) (c : Int) (hn : n ≤ 26) : ∃ L, Nms n L ∧ LL.f_words d [.int c, nT n] = .ok (.lst none (L.map nmT)) := by
  obtain ⟨row, hr, hdg⟩ := digitsN_ev (d + 1) c none [12, 12, 36, 36, 36, 36, 36, 36, 36, 36, 36, 36, 36, 36] (by decide) (by decide)
  have hd : LL.f_digits (d + 1) [.int c, .lst none [.int 12, .int 12, .int 36, .int 36, .int 36, .int 36, .int 36, .int 36, .int 36, .int 36, .int 36, .int 36, .int 36, .int 36]] = .ok (.lst none (row.map nT)) := hdg
  have hl : row.length = 14 := hr.length
  have i0 : atI (row.map nT) 0 = some (nT (row[0]'(by omega))) := atI_map (k := 0) (by omega)
  have i1 : atI (row.map nT) 1 = some (nT (row[1]'(by omega))) := atI_map (k := 1) (by omega)
  have b0 : row[0]'(by omega) < 12 := hr.get (k := 0) (List.getElem?_eq_getElem _) rfl
  have bj : ∀ j, ∀ h : j < 12, row[2 + j]'(by omega) < 36 := fun j h => hr.get (k := 2 + j) (List.getElem?_eq_getElem _) (by
    match j, h with
    | 0, _ => rfl
    | 1, _ => rfl
    | 2, _ => rfl
    | 3, _ => rfl
    | 4, _ => rfl
    | 5, _ => rfl
    | 6, _ => rfl
    | 7, _ => rfl
    | 8, _ => rfl
    | 9, _ => rfl
    | 10, _ => rfl
    | 11, _ => rfl)
  generalize row[0]'(by omega) = x0 at i0 b0
  generalize row[1]'(by omega) = x1 at i1
  obtain ⟨sp, hsp⟩ : ∃ sp, sp = x1 % (x0 + 1) := ⟨_, rfl⟩
  have hsl : sp < x0 + 1 := by rw [hsp]; exact Nat.mod_lt _ (by omega)
  have m0 : T.mul (.lst none [.int 36]) (.int 12) = some (.lst none [.int 36, .int 36, .int 36, .int 36, .int 36, .int 36, .int 36, .int 36, .int 36, .int 36, .int 36, .int 36]) := rfl
  have a0 : T.add (.lst none [.int 12, .int 12]) (.lst none [.int 36, .int 36, .int 36, .int 36, .int 36, .int 36, .int 36, .int 36, .int 36, .int 36, .int 36, .int 36]) = some (.lst none [.int 12, .int 12, .int 36, .int 36, .int 36, .int 36, .int 36, .int 36, .int 36, .int 36, .int 36, .int 36, .int 36, .int 36]) := rfl
  have l2 : lfit 2 = true := rfl
  have l1 : lfit 1 = true := rfl
  have l0 : lfit 0 = true := rfl
  have md : T.mod (nT x1) (.int (1 + (x0 : Int))) = some (nT sp) := by
    rw [show (nT x1) = T.int (x1 : Int) from rfl, mod_int (by omega), hsp]
    congr 2
    rw [show (1 + (x0 : Int)) = ((x0 + 1 : Nat) : Int) by omega]
    exact (Int.natCast_emod x1 (x0 + 1)).symm
  have lenE : T.int (1 + (x0 : Int)) = nT (x0 + 1) := by
    show T.int _ = T.int _
    congr 1
    omega
  unfold LL.f_words
  suffices h : sat { rt := fun t => ∃ L, Nms n L ∧ t = .lst none (L.map nmT) } (LL.S_words d (ent 12 [.int c, nT n])) by
    obtain ⟨t, h1, L, h2, rfl⟩ := run_ok (sat_last (Q := { nx := fun _ => _, rt := _ }) h)
    exact ⟨L, h2, h1⟩
  rw [show ent 12 [.int c, nT n] = [some (.fz (.int c)), some (.fz (nT n)), none, none, none, none, none, none, none, none, none, none] from rfl]
  unfold LL.S_words
  refine sat_seqI (fun e => e = [some (.fz (.int c)), some (.fz (nT n)), some (.fz (.lst none (row.map nT))), none, none, none, none, none, none, none, none, none]) (by simp [l2, l1, m0, a0, hd]) ?_
  rintro e rfl
  refine sat_seqI (fun e => e = [some (.fz (.int c)), some (.fz (nT n)), some (.fz (.lst none (row.map nT))), some (.fz (nT (x0 + 1))), none, none, none, none, none, none, none, none]) (by simp [i0, lenE]) ?_
  rintro e rfl
  rw [lenE] at md
  refine sat_seqI (fun e => e = [some (.fz (.int c)), some (.fz (nT n)), some (.fz (.lst none (row.map nT))), some (.fz (nT (x0 + 1))), some (.fz (nT sp)), none, none, none, none, none, none, none]) (by
    have e1 : T.int ((x1 : Nat) : Int) = nT x1 := rfl
    simp [i1, md, e1]) ?_
  rintro e rfl
  refine sat_seqI (fun e => e = [some (.fz (.int c)), some (.fz (nT n)), some (.fz (.lst none (row.map nT))), some (.fz (nT (x0 + 1))), some (.fz (nT sp)), some (.fz (.str letS)), none, none, none, none, none, none]) (by simp [letS]) ?_
  rintro e rfl
  refine sat_seqI (fun e => e = [some (.fz (.int c)), some (.fz (nT n)), some (.fz (.lst none (row.map nT))), some (.fz (nT (x0 + 1))), some (.fz (nT sp)), some (.fz (.str letS)), some (.fz (.str sigS)), none, none, none, none, none]) (by simp [sigS]) ?_
  rintro e rfl
  refine sat_seqI (fun e => e = [some (.fz (.int c)), some (.fz (nT n)), some (.fz (.lst none (row.map nT))), some (.fz (nT (x0 + 1))), some (.fz (nT sp)), some (.fz (.str letS)), some (.fz (.str sigS)), some (.ol []), none, none, none, none]) (by simp [l0]) ?_
  rintro e rfl
  refine sat_seqI (fun e => ∃ (L : List (List Nat)) (o8 o9 o10 o11 : Option Sl), e = [some (.fz (.int c)), some (.fz (nT n)), some (.fz (.lst none (row.map nT))), some (.fz (nT (x0 + 1))), some (.fz (nT sp)), some (.fz (.str letS)), some (.fz (.str sigS)), some (.ol (L.map nmT)), o8, o9, o10, o11] ∧ L.length = n ∧ ∀ k l, L[k]? = some l → Nm l ∧ l[sp]? = some k) ?_ ?_
  · have hrf : rfit (n : Int) = true := rfit_ok (by omega) (by omega)
    simp [hrf]
    refine sat_rngN (fun kk e => ∃ (L : List (List Nat)) (o8 o9 o10 o11 : Option Sl), e = [some (.fz (.int c)), some (.fz (nT n)), some (.fz (.lst none (row.map nT))), some (.fz (nT (x0 + 1))), some (.fz (nT sp)), some (.fz (.str letS)), some (.fz (.str sigS)), some (.ol (L.map nmT)), o8, o9, o10, o11] ∧ L.length = kk ∧ ∀ k l, L[k]? = some l → Nm l ∧ l[sp]? = some k) 0 rfl ⟨[], none, none, none, none, rfl, rfl, by simp⟩ ?_ ?_
    · rintro k e hk ⟨L, o8, o9, o10, o11, rfl, hL, hP⟩
      rw [Nat.zero_add]
      refine ⟨_, rfl, ?_⟩
      refine sat_seqI (fun e => e = [some (.fz (.int c)), some (.fz (nT n)), some (.fz (.lst none (row.map nT))), some (.fz (nT (x0 + 1))), some (.fz (nT sp)), some (.fz (.str letS)), some (.fz (.str sigS)), some (.ol (L.map nmT)), some (.fz (nT k)), some (.fz (nmT [])), o10, o11]) (by simp [nmT, e_eq]) ?_
      rintro e rfl
      refine sat_seqI (fun e => ∃ (l : List Nat) (o10 o11 : Option Sl), e = [some (.fz (.int c)), some (.fz (nT n)), some (.fz (.lst none (row.map nT))), some (.fz (nT (x0 + 1))), some (.fz (nT sp)), some (.fz (.str letS)), some (.fz (.str sigS)), some (.ol (L.map nmT)), some (.fz (nT k)), some (.fz (nmT l)), o10, o11] ∧ Nm l ∧ l[sp]? = some k) ?_ ?_
      · have hrf2 : rfit ((x0 + 1 : Nat) : Int) = true := rfit_ok (by omega) (by omega)
        have t2 : ((x0 + 1 : Nat) : Int).toNat = x0 + 1 := rfl
        simp [hrf2, t2, -Int.natCast_add]
        refine sat_rngN (fun j e => ∃ (l : List Nat) (o10 o11 : Option Sl), e = [some (.fz (.int c)), some (.fz (nT n)), some (.fz (.lst none (row.map nT))), some (.fz (nT (x0 + 1))), some (.fz (nT sp)), some (.fz (.str letS)), some (.fz (.str sigS)), some (.ol (L.map nmT)), some (.fz (nT k)), some (.fz (nmT l)), o10, o11] ∧ l.length = j ∧ (∀ i ∈ l, i < 36) ∧ (∀ i, l[0]? = some i → i < 26) ∧ (sp < j → l[sp]? = some k)) 0 rfl ⟨[], _, _, rfl, rfl, by simp, by simp, fun h => absurd h (Nat.not_lt_zero _)⟩ ?_ ?_
        · rintro j e hj ⟨l, o10, o11, rfl, hl1, hl2, hl3, hl4⟩
          rw [Nat.zero_add]
          refine ⟨_, rfl, ?_⟩
          have hj12 : j < 12 := by omega
          have ij : atI (row.map nT) (2 + (j : Int)) = some (nT (row[2 + j]'(by omega))) := atI_mapI (2 + j) (by omega) (by omega)
          generalize row[2 + j]'(by omega) = rj at ij
          obtain ⟨s, hs⟩ : ∃ s, s = (rj + k * (j + 1)) % 36 := ⟨_, rfl⟩
          have hs36 : s < 36 := by rw [hs]; exact Nat.mod_lt _ (by omega)
          have mu : T.mul (.int (k : Int)) (.int ((j : Int) + 1)) = some (nT (k * (j + 1))) := by
            rw [mul_small (nat_lt_big (by omega) (by omega)) (nat_lt_big (by omega) (by omega))]
            congr 2
          have mo : T.mod (.int ((rj : Int) + ((k * (j + 1) : Nat) : Int))) (.int 36) = some (nT s) := by
            rw [mod_int (by omega), hs]
            congr 2
          have ig := ix_sig hs36
          have step : ∀ i, i < 36 → (j = 0 → i < 26) → (j = sp → i = k) → ∃ (l' : List Nat), nmT l' = .str (strL (l.map sgc ++ [sgc i])) ∧ l'.length = j + 1 ∧ (∀ i ∈ l', i < 36) ∧ (∀ i, l'[0]? = some i → i < 26) ∧ (sp < j + 1 → l'[sp]? = some k) := fun i h1 h2 h3 => by
            refine ⟨l ++ [i], by unfold nmT; rw [List.map_append]; rfl, by rw [List.length_append, hl1]; rfl, ?_, ?_, ?_⟩
            · intro x hx
              rcases List.mem_append.mp hx with hx | hx
              · exact hl2 x hx
              · rw [List.mem_singleton] at hx; omega
            · intro x hx
              by_cases hz : j = 0
              · have : l = [] := List.eq_nil_of_length_eq_zero (by omega)
                subst this
                cases hx
                exact h2 hz
              · rw [List.getElem?_append_left (by omega)] at hx
                exact hl3 x hx
            · intro hx
              by_cases hz : sp = j
              · rw [hz, List.getElem?_append_right (by omega), hl1, Nat.sub_self, h3 hz.symm]
                rfl
              · rw [List.getElem?_append_left (by omega)]
                exact hl4 (by omega)
          have ad : ∀ i, T.add (nmT l) (.str (strL [sgc i])) = some (.str (strL (l.map sgc ++ [sgc i]))) := fun i => add_str (by simp; omega)
          have fin : ∀ i, i < 36 → (j = 0 → i < 26) → (j = sp → i = k) → sat { nx := fun e => ∃ (l : List Nat) (o10 o11 : Option Sl), e = [some (.fz (.int c)), some (.fz (nT n)), some (.fz (.lst none (row.map nT))), some (.fz (nT (x0 + 1))), some (.fz (nT sp)), some (.fz (.str letS)), some (.fz (.str sigS)), some (.ol (L.map nmT)), some (.fz (nT k)), some (.fz (nmT l)), o10, o11] ∧ l.length = j + 1 ∧ (∀ i ∈ l, i < 36) ∧ (∀ i, l[0]? = some i → i < 26) ∧ (sp < j + 1 → l[sp]? = some k) } (S.asg 9 (P.bin T.add (P.var d 9) (P.var d 11)) [some (.fz (.int c)), some (.fz (nT n)), some (.fz (.lst none (row.map nT))), some (.fz (nT (x0 + 1))), some (.fz (nT sp)), some (.fz (.str letS)), some (.fz (.str sigS)), some (.ol (L.map nmT)), some (.fz (nT k)), some (.fz (nmT l)), some (.fz (nT j)), some (.fz (.str (strL [sgc i])))]) := fun i h1 h2 h3 => by
            obtain ⟨l', q1, q2⟩ := step i h1 h2 h3
            simp [ad, ← q1]
            exact ⟨l', rfl, q2⟩
          refine sat_seqI (fun e => e = [some (.fz (.int c)), some (.fz (nT n)), some (.fz (.lst none (row.map nT))), some (.fz (nT (x0 + 1))), some (.fz (nT sp)), some (.fz (.str letS)), some (.fz (.str sigS)), some (.ol (L.map nmT)), some (.fz (nT k)), some (.fz (nmT l)), some (.fz (nT j)), some (.fz (.str (strL [sgc s])))]) (by
            generalize k * (j + 1) = kj at mu mo
            simp [ij, mu, mo, ig]) ?_
          rintro e rfl
          have il := isIn_let hs36
          refine sat_seqI (fun e => ∃ i, i < 36 ∧ (j = 0 → i < 26) ∧ e = [some (.fz (.int c)), some (.fz (nT n)), some (.fz (.lst none (row.map nT))), some (.fz (nT (x0 + 1))), some (.fz (nT sp)), some (.fz (.str letS)), some (.fz (.str sigS)), some (.ol (L.map nmT)), some (.fz (nT k)), some (.fz (nmT l)), some (.fz (nT j)), some (.fz (.str (strL [sgc i])))]) ?_ ?_
          · by_cases hz : j = 0
            · by_cases h26 : 26 ≤ s
              · subst hz
                simp [il, h26, q_eq]
                exact ⟨16, by omega, by omega, rfl⟩
              · subst hz
                simp [il, h26]
                exact ⟨s, hs36, by omega, rfl⟩
            · simp [hz]
              exact ⟨s, hs36, rfl⟩
          rintro e ⟨i, h36, h26, rfl⟩
          by_cases hz : j = sp
          · have il2 := ix_let (k := k) (by omega)
            refine sat_seqI (fun e => e = [some (.fz (.int c)), some (.fz (nT n)), some (.fz (.lst none (row.map nT))), some (.fz (nT (x0 + 1))), some (.fz (nT sp)), some (.fz (.str letS)), some (.fz (.str sigS)), some (.ol (L.map nmT)), some (.fz (nT k)), some (.fz (nmT l)), some (.fz (nT j)), some (.fz (.str (strL [sgc k])))]) (by
              have e1 : ((j : Nat) : Int) = (sp : Int) := by rw [hz]
              simp [e1, il2]) ?_
            rintro e rfl
            exact sat_mono (fin k (by omega) (fun _ => by omega) (fun _ => rfl)) (fun _ z => z) (fun _ z => z.elim) (fun _ z => z.elim) (fun _ z => z.elim) (fun _ _ z => z.elim)
          · refine sat_seqI (fun e => e = [some (.fz (.int c)), some (.fz (nT n)), some (.fz (.lst none (row.map nT))), some (.fz (nT (x0 + 1))), some (.fz (nT sp)), some (.fz (.str letS)), some (.fz (.str sigS)), some (.ol (L.map nmT)), some (.fz (nT k)), some (.fz (nmT l)), some (.fz (nT j)), some (.fz (.str (strL [sgc i])))]) (by
              have e1 : ¬ ((j : Nat) : Int) = (sp : Int) := by omega
              simp [e1]) ?_
            rintro e rfl
            exact sat_mono (fin i h36 h26 (fun h => absurd h hz)) (fun _ z => z) (fun _ z => z.elim) (fun _ z => z.elim) (fun _ z => z.elim) (fun _ _ z => z.elim)
        · rintro e ⟨l, o10, o11, rfl, hl1, hl2, hl3, hl4⟩
          exact ⟨l, ⟨o10, o11, rfl⟩, ⟨by omega, by omega, hl2, hl3⟩, hl4 hsl⟩
      rintro e ⟨l, o10, o11, rfl, hN, hS⟩
      have hz : L.length < sizeLine := Nat.lt_of_le_of_lt (show L.length ≤ 26 by omega) (by decide)
      simp [hz]
      refine ⟨L ++ [l], by rw [List.map_append]; rfl, by rw [List.length_append, hL]; rfl, fun k' l' h => ?_⟩
      by_cases hlt : k' < L.length
      · rw [List.getElem?_append_left hlt] at h
        exact hP k' l' h
      · rw [List.getElem?_append_right (by omega)] at h
        have hk0 : k' - L.length = 0 := by
          by_cases hc : k' - L.length = 0
          · exact hc
          · rw [List.getElem?_eq_none (by simp; omega)] at h; cases h
        rw [hk0] at h
        cases h
        exact ⟨hN, by rw [hS]; exact congrArg some (by omega)⟩
    · rintro e ⟨L, o8, o9, o10, o11, rfl, hL, hP⟩
      exact ⟨L, ⟨o8, o9, o10, o11, rfl⟩, hL, hP⟩
  rintro e ⟨L, o8, o9, o10, o11, rfl, hL, hP⟩
  simp
  refine ⟨L, ⟨hL, fun l hl => ?_, ?_⟩, rfl⟩
  · obtain ⟨k, hk⟩ := List.getElem?_of_mem hl
    exact (hP k l hk).1
  · rw [List.nodup_iff_pairwise_ne, List.pairwise_iff_getElem]
    intro i j hi hj hij he
    have p1 := (hP j L[j] (List.getElem?_eq_getElem hj)).2
    have p2 := (hP i L[j] (by rw [List.getElem?_eq_getElem hi, he])).2
    rw [p1] at p2
    cases p2
    omega
end Py

set_option Elab.async false
set_option linter.all false
set_option maxRecDepth 100000
set_option maxHeartbeats 4000000
namespace Py
open PySem L2
/-! ### statement by statement, the frame found by the look itself -/
theorem sat_step {Q : Wq} {a b : Sx} {env e1 : Fv} (h1 : a env = .nx e1) (h2 : sat Q (b e1)) : sat Q (S.seq a b env) := by
  rw [ev_seq, h1, k_nx]
  exact h2
theorem sat_ret {Q : Wq} {a : Sx} {env : Fv} {t : T} (h1 : a env = .rt t) (h2 : Q.rt t) : sat Q (a env) := by
  rw [h1, sat_rt]
  exact h2
theorem sat_nxE {Q : Wq} {a : Sx} {env e1 : Fv} (h1 : a env = .nx e1) (h2 : Q.nx e1) : sat Q (a env) := by
  rw [h1, sat_nx]
  exact h2
theorem nxE {a b : Fv} (h : a = b) : RS.nx a = RS.nx b := by rw [h]
theorem cutL_hi (g : Option Tag) (ts : List T) (k : Nat) : T.cutA (.lst g ts) none (some (k : Int)) = some (.lst none (ts.take k)) := by
  show some (T.lst none ((ts.drop (HT.sIx ts.length 0 none)).take (HT.sIx ts.length ts.length (some (k : Int)) - HT.sIx ts.length 0 none))) = _
  rw [HT.sIx_none, HT.sIx_nat, List.drop_zero, Nat.sub_zero]
  congr 2
  rcases Nat.le_total k ts.length with h | h
  · rw [Nat.min_eq_left h]
  · rw [Nat.min_eq_right h, List.take_of_length_le (Nat.le_refl _), List.take_of_length_le h]
theorem cutL_lo (g : Option Tag) (ts : List T) (k : Nat) : T.cutA (.lst g ts) (some (k : Int)) none = some (.lst none (ts.drop k)) := by
  show some (T.lst none ((ts.drop (HT.sIx ts.length 0 (some (k : Int)))).take (HT.sIx ts.length ts.length none - HT.sIx ts.length 0 (some (k : Int))))) = _
  rw [HT.sIx_none, HT.sIx_nat]
  rw [List.take_of_length_le (by rw [List.length_drop]; omega)]
  congr 2
  rcases Nat.le_total k ts.length with h | h
  · rw [Nat.min_eq_left h]
  · rw [Nat.min_eq_right h, List.drop_of_length_le (Nat.le_refl _), List.drop_of_length_le h]
section
variable {α : Type} {a0 a1 a2 a3 a4 a5 a6 : α} {l : List α}
@[simp] theorem atI_0 : atI (a0 :: l) 0 = some a0 := atI_nat (k := 0) (by simp)
@[simp] theorem atI_1 : atI (a0 :: a1 :: l) 1 = some a1 := atI_nat (k := 1) (by simp)
@[simp] theorem atI_2 : atI (a0 :: a1 :: a2 :: l) 2 = some a2 := atI_nat (k := 2) (by simp)
@[simp] theorem atI_3 : atI (a0 :: a1 :: a2 :: a3 :: l) 3 = some a3 := atI_nat (k := 3) (by simp)
@[simp] theorem atI_4 : atI (a0 :: a1 :: a2 :: a3 :: a4 :: l) 4 = some a4 := atI_nat (k := 4) (by simp)
@[simp] theorem atI_5 : atI (a0 :: a1 :: a2 :: a3 :: a4 :: a5 :: l) 5 = some a5 := atI_nat (k := 5) (by simp)
end
@[simp] theorem lfit_0 : lfit 0 = true := lfit_ok (by omega)
@[simp] theorem lfit_1 : lfit 1 = true := lfit_ok (by omega)
@[simp] theorem lfit_2 : lfit 2 = true := lfit_ok (by omega)
@[simp] theorem lfit_3 : lfit 3 = true := lfit_ok (by omega)
@[simp] theorem lfit_4 : lfit 4 = true := lfit_ok (by omega)
@[simp] theorem lfit_5 : lfit 5 = true := lfit_ok (by omega)
@[simp] theorem lfit_6 : lfit 6 = true := lfit_ok (by omega)
@[simp] theorem lfit_7 : lfit 7 = true := lfit_ok (by omega)
@[simp] theorem lfit_8 : lfit 8 = true := lfit_ok (by omega)
@[simp] theorem lfit_9 : lfit 9 = true := lfit_ok (by omega)
@[simp] theorem lfit_10 : lfit 10 = true := lfit_ok (by omega)
/-- nothing is let by -/
theorem turnsC_none {tg : T → Fv → Option Fv} {b : P.Bx} {p : P.Ex1} {env : Fv} (xs : List T) (h : ∀ x, x ∈ xs → ∃ e1, tg x env = some e1 ∧ b e1 = .ok false) : P.turnsC tg b p env xs = .ok [] := by
  have := turnsC_map (tg := tg) (b := b) (p := p) (env := env) (g := id) (c := fun _ => false) (f := id) xs (fun x hx => by
    obtain ⟨e1, h1, h2⟩ := h x hx
    exact ⟨e1, h1, h2, fun z => nomatch z⟩)
  rw [List.map_id] at this
  rw [this]
  simp
theorem turnsC_all {β : Type} {tg : T → Fv → Option Fv} {b : P.Bx} {p : P.Ex1} {env : Fv} {g : β → T} {f : β → T} (xs : List β) (h : ∀ x, x ∈ xs → ∃ e1, tg (g x) env = some e1 ∧ b e1 = .ok true ∧ p e1 = .ok (f x)) : P.turnsC tg b p env (xs.map g) = .ok (xs.map f) := by
  have := turnsC_map (tg := tg) (b := b) (p := p) (env := env) (g := g) (c := fun _ => true) (f := f) xs (fun x hx => by
    obtain ⟨e1, h1, h2, h3⟩ := h x hx
    exact ⟨e1, h1, h2, fun _ => h3⟩)
  rw [this, List.filter_eq_self.mpr (fun _ _ => rfl)]
theorem DigN.rep {m s : Nat} : ∀ {xs : List Nat}, DigN xs (List.replicate m s) → ∀ x ∈ xs, x < s := fun {xs} h x hx => by
  obtain ⟨k, hk⟩ := List.getElem?_of_mem hx
  have hl := h.length
  rw [List.length_replicate] at hl
  have hk' := (List.getElem?_eq_some_iff.mp hk).1
  exact h.get hk (by rw [List.getElem?_replicate, if_pos (by omega)])
end Py

set_option Elab.async false
set_option linter.all false
set_option maxRecDepth 100000
set_option maxHeartbeats 4000000
namespace Py
open PySem L2
/-! ### dicts made by comprehension, walked by their keys; several clauses -/
section
variable {d i : Nat} {env : Fv} {p q : P.Ex1} {t : T} {g : Option Tag} {ks : List Kt} {ts : List T} {rows : List Hdl} {s : Sx}
@[simp] theorem ev_newDc {pn : Fv → Res (List Kt × List T)} : S.newDc i pn env = (pn (hide env)).then_ env fun r => if i < env.length then .nx (env.set i (some (.od r.1 r.2))) else .stuck := nrfl rfl
@[simp] theorem ev_dcomp {own : List Nat} {tg : T → Fv → Option Fv} {pi : Fv → Res (List T)} {b : P.Bx} : P.dcomp own tg pi b p q env = (P.comp own tg pi b (P.pairX p q) env).bind fun ps => .ok (dfold ps) := nrfl rfl
@[simp] theorem ev_pairX : P.pairX p q env = (p env).bind fun k => (q env).bind fun v => if k.kt.isSome = true then .ok (.tup [k, v]) else .stuck := nrfl rfl
@[simp] theorem ev_keysD : P.keysD p env = (p env).bind fun t => .of (keysOf t) := nrfl rfl
@[simp] theorem keysOf_dct : keysOf (.dct g ks ts) = some (ks.map ktT) := nrfl rfl
def tryKR (rows : List Hdl) : RS → RS
  | .er e env1 => S.handle e env1 rows
  | r => r
@[simp] theorem ev_tryR : S.tryR rows s env = tryKR rows (s env) := nrfl rfl
@[simp] theorem tryKR_nx : tryKR rows (.nx env) = .nx env := nrfl rfl
@[simp] theorem tryKR_rt : tryKR rows (.rt t) = .rt t := nrfl rfl
@[simp] theorem tryKR_er {e : Exn} : tryKR rows (.er e env) = S.handle e env rows := nrfl rfl
theorem handle_t {e : Exn} {h : Hdl} {r : List Hdl} (hh : h.1 e.c = some true) : S.handle e env (h :: r) = if h.2.1 < env.length then S.done h.2.1 (h.2.2 (env.set h.2.1 (some (.fz (.exn e.c e.ns e.ts))))) else .stuck := by
  unfold S.handle
  simp only [hh]
theorem handle_f {e : Exn} {h : Hdl} {r : List Hdl} (hh : h.1 e.c = some false) : S.handle e env (h :: r) = S.handle e env r := by
  conv => lhs; unfold S.handle
  simp only [hh]
end
def pairT (e : (Nat × Nat) × Nat) : T := .tup [.tup [nT e.1.1, nT e.1.2], nT e.2]
theorem dfold_kv : ∀ (es m : KV), (kvkeys (m ++ es)).Nodup → (es.map pairT).foldl dstep (kvK m, kvT m) = (kvK (m ++ es), kvT (m ++ es))
  | [], m, _ => by rw [List.append_nil]; rfl
  | e :: es, m, h => by
    have hk : e.1 ∉ kvkeys m := fun hh => by
      unfold kvkeys at h hh
      rw [List.map_append, List.nodup_append] at h
      exact h.2.2 _ hh _ (by simp) rfl
    have h1 : kvput m e.1 e.2 = m ++ [e] := by
      unfold kvput
      rw [kvget_none.mpr hk, if_neg (by simp)]
    obtain ⟨q1, q2⟩ := dput_kv m e.1 e.2
    rw [List.map_cons, List.foldl_cons]
    have e1 : dstep (kvK m, kvT m) (pairT e) = (kvK (m ++ [e]), kvT (m ++ [e])) := by
      show (dputK (kvK m) (kvT m) (pK e.1), dputT (kvK m) (kvT m) (pK e.1) (nT e.2)) = _
      rw [q1, q2, h1]
    rw [e1, dfold_kv es (m ++ [e]) (by rw [List.append_assoc]; exact h), List.append_assoc]
    rfl
theorem dfold_pairs {es : KV} (h : (kvkeys es).Nodup) : dfold (es.map pairT) = (kvK es, kvT es) := dfold_kv es [] h
theorem kvget_put (m : KV) (k j : Nat × Nat) (w : Nat) : kvget (kvput m k w) j = if j = k then some w else kvget m j := by
  have rep : ∀ m : KV, kvget (kvrep m k w) j = if j = k ∧ (kvget m k).isSome = true then some w else kvget m j := fun m => by
    induction m with
    | nil => simp [kvget, kvrep]
    | cons e m ih =>
      show (if e.1 = j then some (if e.1 = k then w else e.2) else kvget (kvrep m k w) j) = (if j = k ∧ (if e.1 = k then some e.2 else kvget m k).isSome = true then some w else if e.1 = j then some e.2 else kvget m j)
      rw [ih]
      by_cases c1 : e.1 = j
      · subst c1
        by_cases c2 : e.1 = k <;> simp [c2]
      · by_cases c2 : j = k
        · subst c2
          simp [c1]
        · simp [c1, c2]
  have app : ∀ m : KV, kvget m k = none → kvget (m ++ [(k, w)]) j = if j = k then some w else kvget m j := fun m => by
    induction m with
    | nil =>
      intro _
      show (if k = j then some w else none) = if j = k then some w else none
      by_cases c : j = k
      · rw [if_pos c, if_pos c.symm]
      · rw [if_neg c, if_neg (fun z => c z.symm)]
    | cons e m ih =>
      intro h
      have h' : (if e.1 = k then some e.2 else kvget m k) = none := h
      by_cases c : e.1 = k
      · rw [if_pos c] at h'; cases h'
      · rw [if_neg c] at h'
        show (if e.1 = j then some e.2 else kvget (m ++ [(k, w)]) j) = if j = k then some w else if e.1 = j then some e.2 else kvget m j
        rw [ih h']
        by_cases c1 : e.1 = j
        · have : ¬ j = k := fun z => c (c1.trans z)
          simp [c1, this]
        · simp [c1]
  unfold kvput
  cases z : kvget m k with
  | none => rw [if_neg (by simp), app m z]
  | some v => rw [if_pos (by rfl), rep m, z]; simp
theorem isDct_od {d i : Nat} {ks : List Kt} {ts : List T} : isDct (.dct (some (d, i)) ks ts) = true := rfl
end Py

set_option Elab.async false
set_option linter.all false
set_option maxRecDepth 100000
set_option maxHeartbeats 4000000
namespace Py
open PySem L2
/-- a for that returns at the first item that is hit -/
theorem turns_first {β : Type} {tg : T → Fv → Option Fv} {body : Sx} {g : β → T} {R : Fv → Prop} {hit : β → Bool} {r : β → T} : ∀ (xs : List β) (env : Fv),
    (∀ x e, x ∈ xs → R e → ∃ e1, tg (g x) e = some e1 ∧ ((hit x = true ∧ body e1 = .rt (r x)) ∨ (hit x = false ∧ ∃ e2, (body e1 = .nx e2 ∨ body e1 = .ct e2) ∧ R e2))) → R env →
    (∃ x, xs.find? hit = some x ∧ S.turns tg body (xs.map g) env = .rt (r x)) ∨ (xs.find? hit = none ∧ ∃ e, S.turns tg body (xs.map g) env = .nx e ∧ R e)
  | [], env, _, q => .inr ⟨rfl, env, rfl, q⟩
  | x :: xs, env, h, q => by
    obtain ⟨e1, h1, h2⟩ := h x env List.mem_cons_self q
    have e0 : S.turns tg body ((x :: xs).map g) env = (match tg (g x) env with
      | some env1 => (match body env1 with
        | .nx env => S.turns tg body (xs.map g) env
        | .ct env => S.turns tg body (xs.map g) env
        | .br env => .nx env
        | r => r)
      | none => .stuck) := nrfl rfl
    rw [e0, h1]
    rcases h2 with ⟨h2, h3⟩ | ⟨h2, e2, h3, h4⟩
    · refine .inl ⟨x, by rw [List.find?_cons, h2], ?_⟩
      simp only [h3]
    · have ih := turns_first xs e2 (fun y e m => h y e (List.mem_cons_of_mem _ m)) h4
      rw [List.find?_cons, h2]
      rcases h3 with h3 | h3
      · simp only [h3]; exact ih
      · simp only [h3]; exact ih
/-- lists of pairs of numbers, equal or not -/
def P2 (p : Nat × Nat) : T := .lst none [nT p.1, nT p.2]
def D2 (p : Nat × Nat) : PyData := .list [.int (p.1 : Int), .int (p.2 : Int)]
theorem pds_P2 : ∀ l : List (Nat × Nat), T.pds (l.map P2) = some (l.map D2)
  | [] => rfl
  | x :: l => by
    show (match T.pd (P2 x), T.pds (l.map P2) with | some d, some ds => some (d :: ds) | _, _ => none) = _
    rw [pds_P2 l]
    rfl
theorem shaped_P2 (l : List (Nat × Nat)) : SeqAt.shaped (.list (l.map D2)) = true := by
  have e1 : ∀ l : List (Nat × Nat), PyData.canLayAll0 (l.map D2) = true := fun l => by
    induction l with
    | nil => rfl
    | cons x l ih =>
      show (true && PyData.canLayAll0 (l.map D2)) = true
      rw [ih]
      rfl
  have e2 : ∀ l : List (Nat × Nat), PyData.depthAll (l.map D2) ≤ 1 := fun l => by
    induction l with
    | nil => exact Nat.zero_le _
    | cons x l ih =>
      show max 1 (PyData.depthAll (l.map D2)) ≤ 1
      omega
  show (PyData.canLayAll0 (l.map D2) && decide (PyData.depthAll (l.map D2) + 1 ≤ 64)) = true
  have := e2 l
  rw [e1, decide_eq_true (by omega)]
  rfl
theorem eqv_P2 : ∀ l m : List (Nat × Nat), PyData.eqvAll (l.map D2) (m.map D2) = (l == m)
  | [], [] => rfl
  | [], _ :: _ => rfl
  | _ :: _, [] => rfl
  | x :: l, y :: m => by
    obtain ⟨x1, x2⟩ := x
    obtain ⟨y1, y2⟩ := y
    show ((((x1 : Int) == (y1 : Int)) && (((x2 : Int) == (y2 : Int)) && true)) && PyData.eqvAll (l.map D2) (m.map D2)) = ((x1 == y1 && x2 == y2) && (l == m))
    rw [eqv_P2 l m]
    have a1 : ((x1 : Int) == (y1 : Int)) = (x1 == y1) := by
      rw [Bool.eq_iff_iff, beq_iff_eq, beq_iff_eq]
      omega
    have a2 : ((x2 : Int) == (y2 : Int)) = (x2 == y2) := by
      rw [Bool.eq_iff_iff, beq_iff_eq, beq_iff_eq]
      omega
    rw [a1, a2, Bool.and_true]
theorem eq_P2 (l m : List (Nat × Nat)) (g g' : Option Tag) : T.eq (.lst g (l.map P2)) (.lst g' (m.map P2)) = some (.bl (l == m)) := by
  show (match (T.pds (l.map P2)).map PyData.list, (T.pds (m.map P2)).map PyData.list with
    | some d, some e => if SeqAt.shaped d && SeqAt.shaped e then some (T.bl (PyData.eqv d e)) else none
    | _, _ => none) = _
  rw [pds_P2, pds_P2]
  show (if (SeqAt.shaped (.list (l.map D2)) && SeqAt.shaped (.list (m.map D2))) = true then some (T.bl (PyData.eqvAll (l.map D2) (m.map D2))) else none) = _
  rw [shaped_P2, shaped_P2, eqv_P2]
  rfl
end Py


set_option Elab.async false
set_option linter.all false
set_option maxRecDepth 100000
set_option maxHeartbeats 4000000
namespace Lw
open PySem L2 Py
/-! ### streets as data -/
def stL (e : (Nat × Nat) × Nat) : T := .lst none [nT e.1.1, nT e.1.2, nT e.2]
def stP (e : (Nat × Nat) × Nat) : T := .tup [nT e.1.1, nT e.1.2, nT e.2]
def val (m : KV) (k : Nat × Nat) : Nat := (kvget m k).getD 0
def kvOf (es : KV) : KV := es.foldl (fun m e => kvadd m e.1 e.2) []
theorem kvOf_snoc (es : KV) (e : (Nat × Nat) × Nat) : kvOf (es ++ [e]) = kvadd (kvOf es) e.1 e.2 := by
  unfold kvOf
  rw [List.foldl_append]
  rfl
theorem wsum_append (φ : Nat × Nat → Nat) (a b : KV) : wsum φ (a ++ b) = wsum φ a + wsum φ b := by
  unfold wsum
  rw [List.map_append, List.sum_append]
theorem wsum_cons (φ : Nat × Nat → Nat) (e : (Nat × Nat) × Nat) (b : KV) : wsum φ (e :: b) = φ e.1 * e.2 + wsum φ b := rfl
theorem kvOf_fold (φ : Nat × Nat → Nat) : ∀ (es m : KV), (kvkeys m).Nodup → (kvkeys (es.foldl (fun m e => kvadd m e.1 e.2) m)).Nodup ∧ wsum φ (es.foldl (fun m e => kvadd m e.1 e.2) m) = wsum φ m + wsum φ es ∧ (∀ k, k ∈ kvkeys (es.foldl (fun m e => kvadd m e.1 e.2) m) → k ∈ kvkeys m ∨ k ∈ kvkeys es) ∧ (es.foldl (fun m e => kvadd m e.1 e.2) m).length ≤ m.length + es.length
  | [], m, h => ⟨h, rfl, fun k z => .inl z, Nat.le_refl _⟩
  | e :: es, m, h => by
    have h1 : (kvkeys (kvadd m e.1 e.2)).Nodup := kvput_nodup h
    obtain ⟨a, b, c, l⟩ := kvOf_fold φ es (kvadd m e.1 e.2) h1
    rw [wsum_add φ e.1 e.2 h] at b
    have hk := kvput_keys m e.1 ((kvget m e.1).getD 0 + e.2)
    have hlen : (kvadd m e.1 e.2).length ≤ m.length + 1 := by
      have := congrArg List.length hk
      have e1 : (kvkeys (kvput m e.1 ((kvget m e.1).getD 0 + e.2))).length = (kvadd m e.1 e.2).length := by unfold kvkeys kvadd; rw [List.length_map]
      rw [e1] at this
      rw [this]
      split
      · unfold kvkeys; rw [List.length_map]; omega
      · rw [List.length_append]; unfold kvkeys; rw [List.length_map]; exact Nat.le_refl _
    refine ⟨a, ?_, fun k hk' => ?_, ?_⟩
    · show wsum φ (es.foldl (fun m e => kvadd m e.1 e.2) (kvadd m e.1 e.2)) = _
      rw [b, wsum_cons]
      omega
    · rcases c k hk' with z | z
      · have z' : k ∈ kvkeys (kvput m e.1 ((kvget m e.1).getD 0 + e.2)) := z
        rw [hk] at z'
        by_cases q : e.1 ∈ kvkeys m
        · rw [if_pos q] at z'; exact .inl z'
        · rw [if_neg q] at z'
          rcases List.mem_append.mp z' with y | y
          · exact .inl y
          · rw [List.mem_singleton] at y
            exact .inr (by rw [y]; exact List.mem_cons_self)
      · exact .inr (List.mem_cons_of_mem _ z)
    · rw [List.length_cons]
      show (es.foldl (fun m e => kvadd m e.1 e.2) (kvadd m e.1 e.2)).length ≤ _
      omega
theorem kvOf_nodup (es : KV) : (kvkeys (kvOf es)).Nodup := (kvOf_fold (fun _ => 0) es [] (by simp [kvkeys])).1
theorem kvOf_sum (φ : Nat × Nat → Nat) (es : KV) : wsum φ (kvOf es) = wsum φ es := by
  have := (kvOf_fold φ es [] (by simp [kvkeys])).2.1
  unfold kvOf
  rw [this]
  simp [wsum]
theorem kvOf_mem {es : KV} {k : Nat × Nat} (h : k ∈ kvkeys (kvOf es)) : k ∈ kvkeys es := by
  rcases (kvOf_fold (fun _ => 0) es [] (by simp [kvkeys])).2.2.1 k h with z | z
  · simp [kvkeys] at z
  · exact z
theorem kvOf_len (es : KV) : (kvOf es).length ≤ es.length := by
  have := (kvOf_fold (fun _ => 0) es [] (by simp [kvkeys])).2.2.2
  unfold kvOf
  simpa using this
theorem val_le (m : KV) (k : Nat × Nat) : val m k ≤ wsum (fun _ => 1) m := by
  unfold val
  induction m with
  | nil => simp [kvget]
  | cons e m ih =>
    rw [wsum_cons]
    unfold kvget
    by_cases c : e.1 = k
    · rw [if_pos c, Nat.one_mul]; exact Nat.le_add_right _ _
    · rw [if_neg c]; omega
/-- the streets summed by their ends, in order -/
def ord (es : KV) : KV := (psN (kvkeys (kvOf es))).map fun k => (k, val (kvOf es) k)
def norm (es : KV) : KV := ((psN (kvkeys (kvOf es))).filter fun k => decide (0 < val (kvOf es) k)).map fun k => (k, val (kvOf es) k)
theorem ord_sum (φ : Nat × Nat → Nat) (es : KV) : wsum φ (ord es) = wsum φ es := by
  rw [← kvOf_sum φ es, ← wsum_sorted φ (kvOf_nodup es)]
  unfold ord wsum
  rw [List.map_map]
  rfl
theorem norm_sum (φ : Nat × Nat → Nat) (es : KV) : wsum φ (norm es) = wsum φ es := by
  rw [← ord_sum φ es]
  unfold ord norm
  generalize psN (kvkeys (kvOf es)) = l
  induction l with
  | nil => rfl
  | cons k l ih =>
    by_cases c : 0 < val (kvOf es) k
    · rw [List.filter_cons, if_pos (decide_eq_true c), List.map_cons, List.map_cons, wsum_cons, wsum_cons, ih]
    · rw [List.filter_cons, if_neg (by rw [decide_eq_false c]; simp), List.map_cons, wsum_cons, ih]
      have : val (kvOf es) k = 0 := by omega
      simp [this]
theorem norm_mem {es : KV} {e : (Nat × Nat) × Nat} (h : e ∈ norm es) : (∃ l, (e.1, l) ∈ es) ∧ 0 < e.2 ∧ e.2 ≤ wsum (fun _ => 1) es := by
  unfold norm at h
  obtain ⟨k, hk, rfl⟩ := List.mem_map.mp h
  obtain ⟨h1, h2⟩ := List.mem_filter.mp hk
  have h3 := kvOf_mem ((psN_perm _).mem_iff.mp h1)
  obtain ⟨x, hx, rfl⟩ := List.mem_map.mp h3
  refine ⟨⟨x.2, hx⟩, of_decide_eq_true h2, ?_⟩
  rw [← kvOf_sum (fun _ => 1) es]
  exact val_le _ _
theorem norm_len (es : KV) : (norm es).length ≤ es.length := by
  unfold norm
  rw [List.length_map]
  refine Nat.le_trans (List.length_filter_le _ _) ?_
  rw [(psN_perm _).length_eq]
  unfold kvkeys
  rw [List.length_map]
  exact kvOf_len es
theorem ord_len (es : KV) : (ord es).length ≤ es.length := by
  unfold ord
  rw [List.length_map, (psN_perm _).length_eq]
  unfold kvkeys
  rw [List.length_map]
  exact kvOf_len es
theorem ord_mem {es : KV} {e : (Nat × Nat) × Nat} (h : e ∈ ord es) : (∃ l, (e.1, l) ∈ es) := by
  unfold ord at h
  obtain ⟨k, hk, rfl⟩ := List.mem_map.mp h
  have h3 := kvOf_mem ((psN_perm _).mem_iff.mp hk)
  obtain ⟨x, hx, rfl⟩ := List.mem_map.mp h3
  exact ⟨x.2, hx⟩
/-- the dict at a key that it has -/
theorem val_key {m : KV} {k : Nat × Nat} (h : k ∈ kvkeys m) : dval (kvK m) (kvT m) (pK k) = some (nT (val m k)) := by
  rw [dval_kv]
  unfold val
  cases z : kvget m k with
  | none => exact absurd h (kvget_none.mp z)
  | some w => rfl
theorem add_key (m : KV) (k : Nat × Nat) (l : Nat) : dputK (kvK m) (kvT m) (pK k) = kvK (kvadd m k l) ∧ dputT (kvK m) (kvT m) (pK k) (nT (val m k + l)) = kvT (kvadd m k l) := dput_kv m k (val m k + l)
theorem get_key (m : KV) (k : Nat × Nat) : (dval (kvK m) (kvT m) (pK k)).getD (.int 0) = nT (val m k) := by
  rw [dval_kv]
  unfold val
  cases kvget m k <;> rfl
@[simp] theorem hide_op (o : Option T) : Sl.hide (o.map Sl.fz) = o.map Sl.fz := by cases o <;> rfl

/-! ### the ends in order -/
def lk (e : (Nat × Nat) × Nat) : (Nat × Nat) × Nat := ((min e.1.1 e.1.2, max e.1.1 e.1.2), e.2)
theorem min_ev (a b : Nat) : B.min2 [nT a, nT b] = some (nT (min a b)) := by
  show some (T.int (if (b : Int) < (a : Int) then (b : Int) else (a : Int))) = some (T.int ((min a b : Nat) : Int))
  congr 2
  split <;> omega
theorem max_ev (a b : Nat) : B.max2 [nT a, nT b] = some (nT (max a b)) := by
  show some (T.int (if (b : Int) > (a : Int) then (b : Int) else (a : Int))) = some (T.int ((max a b : Nat) : Int))
  congr 2
  split <;> omega
/-- law's streets summed: the loop over what has been taken so far -/
def wT (es : KV) : KV := kvOf (es.map lk)
theorem wT_snoc (es : KV) (e : (Nat × Nat) × Nat) : wT (es ++ [e]) = kvadd (wT es) (lk e).1 e.2 := by
  unfold wT
  rw [List.map_append, List.map_singleton, kvOf_snoc]
  rfl
theorem wT_len (es : KV) : (wT es).length ≤ es.length := by
  unfold wT
  have := kvOf_len (es.map lk)
  rw [List.length_map] at this
  exact this
theorem wT_small {es : KV} (k : Nat) (hl : es.length ≤ 100000) : (kvK (wT (es.take k))).length < sizeLine := by
  have h1 : (kvK (wT (es.take k))).length ≤ es.length := by
    unfold kvK
    rw [List.length_map]
    refine Nat.le_trans (wT_len _) ?_
    rw [List.length_take]
    omega
  exact Nat.lt_of_le_of_lt (Nat.le_trans h1 hl) (by decide)
def norL (es : KV) : KV := norm (es.map lk)
def ordL (es : KV) : KV := ord (es.map lk)
theorem streets_end (d : Nat) (m : KV) (es : T) (o2 o3 o4 : Option T) (hm : m.length ≤ 100000) (hN : (kvkeys m).Nodup) : (S.frz 1 (S.ret (P.lc [5] (S.tName 5) (P.items (P.call (fun ts => .of (B.sortedP ts)) (P.cons (P.call (fun ts => .of (B.listD ts)) (P.cons (P.var d 1) P.nil)) P.nil))) (P.tb (P.bin T.gt (P.bin T.dix (P.var d 1) (P.var d 5)) (P.c (.int 0)))) (P.lst (P.cons (P.bin T.ix (P.var d 5) (P.c (.int 0))) (P.cons (P.bin T.ix (P.var d 5) (P.c (.int 1))) (P.cons (P.bin T.dix (P.var d 1) (P.var d 5)) P.nil))))))) [some (.fz es), some (.od (kvK m) (kvT m)), o2.map Sl.fz, o3.map Sl.fz, o4.map Sl.fz, none] =
    .rt (.lst none (((psN (kvkeys m)).filter fun k => decide (0 < val m k)).map fun k => stL (k, val m k))) := by
  have hs := sorted_keys m none
  have hL : (psN (kvkeys m)).length ≤ 100000 := by
    rw [(psN_perm _).length_eq]
    unfold kvkeys
    rw [List.length_map]
    exact hm
  have hK : ∀ k ∈ psN (kvkeys m), dval (kvK m) (kvT m) (pK k) = some (nT (val m k)) := fun k hk => val_key ((psN_perm _).mem_iff.mp hk)
  generalize psN (kvkeys m) = l at *
  have hf : lfit l.length = true := lfit_ok (by omega)
  simp [hs, hf]
  rw [turnsC_map (g := fun k => T.tup [nT k.1, nT k.2]) (c := fun k => decide (0 < val m k)) (f := fun k => stL (k, val m k)) l (fun k hk => by
    have hv := hK k hk
    have pk : ([Sum.inl (k.1 : Int), Sum.inl (k.2 : Int)] : Kt) = pK k := rfl
    have i0 : atI [nT k.1, nT k.2] 0 = some (nT k.1) := rfl
    have i1 : atI [nT k.1, nT k.2] 1 = some (nT k.2) := rfl
    have l3 : lfit 3 = true := rfl
    refine ⟨_, rfl, ?_, fun _ => ?_⟩
    · simp [pk, hv]
    · simp [pk, hv, i0, i1, l3, stL])]
  simp
end Lw

set_option Elab.async false
set_option linter.all false
set_option maxRecDepth 100000
set_option maxHeartbeats 4000000
namespace Lw
open PySem L2 Py
/-! ### streets in the one form -/
def klt (a b : Nat × Nat) : Prop := a.1 < b.1 ∨ (a.1 = b.1 ∧ a.2 < b.2)
theorem klt_asymm {a b : Nat × Nat} (h1 : klt a b) (h2 : klt b a) : False := by
  unfold klt at *
  omega
structure Canon (l : KV) : Prop where
  asc : (kvkeys l).Pairwise klt
  pos : ∀ e ∈ l, 0 < e.2
theorem Canon.nodup {l : KV} (h : Canon l) : (kvkeys l).Nodup := h.asc.imp fun {a b} h e => by
  subst e
  exact klt_asymm h h
def dlt (k x : Nat × Nat) : Nat := if x = k then 1 else 0
theorem wsum_dlt (k : Nat × Nat) : ∀ {m : KV}, (kvkeys m).Nodup → wsum (dlt k) m = val m k
  | [], _ => rfl
  | e :: m, h => by
    have h' : e.1 ∉ kvkeys m ∧ (kvkeys m).Nodup := List.nodup_cons.mp h
    have ih := wsum_dlt k h'.2
    rw [wsum_cons, ih]
    show (if e.1 = k then 1 else 0) * e.2 + (kvget m k).getD 0 = (if e.1 = k then some e.2 else kvget m k).getD 0
    by_cases c : e.1 = k
    · rw [if_pos c, if_pos c, Nat.one_mul, kvget_none.mpr (c ▸ h'.1)]
      rfl
    · rw [if_neg c, if_neg c]
      omega
theorem canon_eq {a b : KV} (ha : Canon a) (hb : Canon b) (h : ∀ φ, wsum φ a = wsum φ b) : a = b := by
  have sub : ∀ {a b : KV}, Canon a → Canon b → (∀ φ, wsum φ a = wsum φ b) → ∀ e ∈ a, e ∈ b := fun {a b} ha hb h e he => by
    have h1 : val a e.1 = e.2 := by
      unfold val
      rw [(kvget_mem ha.nodup).mp he]
      rfl
    have h2 := h (dlt e.1)
    rw [wsum_dlt _ ha.nodup, wsum_dlt _ hb.nodup, h1] at h2
    have h3 := ha.pos e he
    cases q : kvget b e.1 with
    | none => unfold val at h2; rw [q] at h2; simp at h2; omega
    | some w =>
      unfold val at h2
      rw [q] at h2
      have : w = e.2 := h2.symm
      subst this
      exact (kvget_mem hb.nodup).mpr q
  have na : ∀ {a : KV}, Canon a → a.Nodup := fun {a} h => List.Pairwise.of_map (f := (·.1)) (S := (· ≠ ·)) (R := (· ≠ ·)) (fun _ _ h1 h2 => h1 (by rw [h2])) h.nodup
  have pw : ∀ {a : KV}, Canon a → a.Pairwise fun x y => klt x.1 y.1 := fun {a} h => by
    have := h.asc
    unfold kvkeys at this
    rw [List.pairwise_map] at this
    exact this
  exact List.Perm.eq_of_pairwise (fun a b _ _ h1 h2 => (klt_asymm h1 h2).elim) (pw ha) (pw hb) ((List.perm_ext_iff_of_nodup (na ha) (na hb)).mpr fun e => ⟨sub ha hb h e, sub hb ha (fun φ => (h φ).symm) e⟩)
theorem psN_asc {l : List (Nat × Nat)} (h : l.Nodup) : (psN l).Pairwise klt := by
  have h1 := psrt_pw (l.map p2I)
  have h2 : (psN l).Nodup := (psN_perm l).nodup_iff.mpr h
  have h3 : (psN l).Pairwise fun p q => SrtO.lexB (p2I q) (p2I p) = false := by
    rw [psN_eq, List.pairwise_map] at h1
    exact h1
  refine (h3.and h2).imp fun {a b} ⟨x, y⟩ => ?_
  have z : ¬ (SrtO.lexB (p2I b) (p2I a) = true) := by rw [x]; simp
  rw [SrtO.lexB_iff] at z
  unfold p2I at z
  obtain ⟨a1, a2⟩ := a
  obtain ⟨b1, b2⟩ := b
  have y' : ¬ (a1 = b1 ∧ a2 = b2) := fun e => y (by rw [e.1, e.2])
  unfold klt
  dsimp only at *
  omega
def nrm (m : KV) : KV := ((psN (kvkeys m)).filter fun k => decide (0 < val m k)).map fun k => (k, val m k)
theorem nrm_canon {m : KV} (h : (kvkeys m).Nodup) : Canon (nrm m) := by
  refine ⟨?_, fun e he => ?_⟩
  · unfold nrm kvkeys
    rw [List.map_map]
    have : ((fun x : (Nat × Nat) × Nat => x.1) ∘ fun k => (k, val m k)) = id := rfl
    rw [this, List.map_id]
    exact (psN_asc h).filter _
  · unfold nrm at he
    obtain ⟨k, hk, rfl⟩ := List.mem_map.mp he
    exact of_decide_eq_true (List.mem_filter.mp hk).2
theorem filt_pos (φ : Nat × Nat → Nat) (m : KV) (l : List (Nat × Nat)) : wsum φ ((l.filter fun k => decide (0 < val m k)).map fun k => (k, val m k)) = (l.map fun k => φ k * val m k).sum := by
  induction l with
  | nil => rfl
  | cons k l ih =>
    by_cases c : 0 < val m k
    · rw [List.filter_cons, if_pos (decide_eq_true c), List.map_cons, wsum_cons, ih, List.map_cons, List.sum_cons]
    · rw [List.filter_cons, if_neg (by rw [decide_eq_false c]; simp), ih, List.map_cons, List.sum_cons]
      have : val m k = 0 := by omega
      simp [this]
theorem nrm_sum (φ : Nat × Nat → Nat) {m : KV} (h : (kvkeys m).Nodup) : wsum φ (nrm m) = wsum φ m := by
  unfold nrm
  rw [filt_pos]
  exact wsum_sorted φ h
/-- in the order of the keys themselves -/
def keep (m : KV) : KV := ((kvkeys m).filter fun k => decide (0 < val m k)).map fun k => (k, val m k)
theorem keep_sum (φ : Nat × Nat → Nat) {m : KV} (h : (kvkeys m).Nodup) : wsum φ (keep m) = wsum φ m := by
  unfold keep
  rw [filt_pos, ← wsum_sorted φ h, ((psN_perm (kvkeys m)).map _).sum_nat]
  rfl
theorem keep_mem {m : KV} {e : (Nat × Nat) × Nat} (h : e ∈ keep m) : e.1 ∈ kvkeys m ∧ 0 < e.2 := by
  unfold keep at h
  obtain ⟨k, hk, rfl⟩ := List.mem_map.mp h
  exact ⟨(List.mem_filter.mp hk).1, of_decide_eq_true (List.mem_filter.mp hk).2⟩
theorem keep_len (m : KV) : (keep m).length ≤ m.length := by
  unfold keep
  rw [List.length_map]
  refine Nat.le_trans (List.length_filter_le _ _) ?_
  unfold kvkeys
  rw [List.length_map]
  exact Nat.le_refl _
theorem norm_canon (es : KV) : Canon (norm es) := nrm_canon (kvOf_nodup es)
theorem ord_pos {es : KV} (h : ∀ e ∈ es, 0 < e.2) : ord es = norm es := by
  unfold ord norm
  congr 1
  refine (List.filter_eq_self.mpr fun k hk => decide_eq_true ?_).symm
  have hk' := (psN_perm _).mem_iff.mp hk
  obtain ⟨x, hx, rfl⟩ := List.mem_map.mp (kvOf_mem hk')
  have h1 := kvOf_sum (dlt x.1) es
  rw [wsum_dlt _ (kvOf_nodup es)] at h1
  rw [h1]
  have h2 : ∀ es : KV, x ∈ es → dlt x.1 x.1 * x.2 ≤ wsum (dlt x.1) es := fun es => by
    induction es with
    | nil => intro h; cases h
    | cons e es ih =>
      intro h
      rw [wsum_cons]
      rcases List.mem_cons.mp h with rfl | h
      · omega
      · have := ih h; omega
  have h3 := h2 es hx
  have h4 := h x hx
  have h5 : dlt x.1 x.1 = 1 := if_pos rfl
  rw [h5] at h3
  omega
theorem ord_canon {es : KV} (h : ∀ e ∈ es, 0 < e.2) : Canon (ord es) := by
  rw [ord_pos h]
  exact norm_canon es
/-! ### entries with numbers of either sign -/
abbrev ZV := List ((Nat × Nat) × Int)
def isum (φ : Nat × Nat → Nat) (es : ZV) : Int := (es.map fun e => (φ e.1 : Int) * e.2).sum
inductive Steps : KV → ZV → KV → Prop
  | nil {m : KV} : Steps m [] m
  | cons {m m' : KV} {k : Nat × Nat} {l : Int} {es : ZV} (w : Nat) (h : (val m k : Int) + l = w) (t : Steps (kvput m k w) es m') : Steps m ((k, l) :: es) m'
theorem kvput_sum (φ : Nat × Nat → Nat) {m : KV} (k : Nat × Nat) (w : Nat) (h : (kvkeys m).Nodup) : (wsum φ (kvput m k w) : Int) = wsum φ m + (φ k : Int) * ((w : Int) - val m k) := by
  have aux : ∀ {m : KV} {v : Nat}, (kvkeys m).Nodup → kvget m k = some v → wsum φ (kvrep m k w) + φ k * v = wsum φ m + φ k * w := fun {m} => by
    induction m with
    | nil => intro v _ h; cases h
    | cons e m ih =>
      intro v hn h
      have h' : (if e.1 = k then some e.2 else kvget m k) = some v := h
      have hn' : e.1 ∉ kvkeys m ∧ (kvkeys m).Nodup := List.nodup_cons.mp hn
      show φ e.1 * (if e.1 = k then w else e.2) + wsum φ (kvrep m k w) + φ k * v = φ e.1 * e.2 + wsum φ m + φ k * w
      by_cases c : e.1 = k
      · rw [if_pos c] at h' ⊢
        cases h'
        have e2 : ∀ m : KV, k ∉ kvkeys m → kvrep m k w = m := fun m => by
          induction m with
          | nil => intro _; rfl
          | cons x m ih =>
            intro hx
            have h1 : ¬ x.1 = k := fun z => hx (by show k ∈ x.1 :: kvkeys m; rw [z]; exact List.mem_cons_self)
            show (x.1, if x.1 = k then w else x.2) :: kvrep m k w = x :: m
            rw [if_neg h1, ih fun z => hx (List.mem_cons_of_mem _ z)]
        rw [e2 m (c ▸ hn'.1), c]
        omega
      · rw [if_neg c] at h' ⊢
        have := ih hn'.2 h'
        omega
  unfold kvput val
  cases z : kvget m k with
  | none =>
    rw [if_neg (by simp)]
    unfold wsum
    simp
  | some v =>
    rw [if_pos (show (some v).isSome = true from rfl)]
    have := aux h z
    show (wsum φ (kvrep m k w) : Int) = wsum φ m + (φ k : Int) * ((w : Int) - (v : Int))
    rw [Int.mul_sub]
    exact_mod_cast (by omega : (wsum φ (kvrep m k w) : Int) = wsum φ m + (((φ k * w : Nat) : Int) - ((φ k * v : Nat) : Int)))
theorem Steps.sum (φ : Nat × Nat → Nat) {m m' : KV} {es : ZV} (h : Steps m es m') : (kvkeys m).Nodup → (kvkeys m').Nodup ∧ (wsum φ m' : Int) = wsum φ m + isum φ es := by
  induction h with
  | nil => exact fun h => ⟨h, by simp [isum]⟩
  | @cons m m' k l es w hw t ih =>
    intro hn
    obtain ⟨h1, h2⟩ := ih (kvput_nodup hn)
    refine ⟨h1, ?_⟩
    rw [h2, kvput_sum φ k w hn]
    have e : (w : Int) - (val m k : Int) = l := by omega
    rw [e]
    unfold isum
    rw [List.map_cons, List.sum_cons]
    dsimp only
    omega
def zOf (es : KV) : ZV := es.map fun e => (e.1, (e.2 : Int))
theorem Steps.app {m m1 m2 : KV} {a b : ZV} (h : Steps m a m1) (h2 : Steps m1 b m2) : Steps m (a ++ b) m2 := by
  induction h with
  | nil => exact h2
  | cons w hw t ih => exact .cons w hw (ih h2)
theorem steps_nat : ∀ (es m : KV), Steps m (zOf es) (es.foldl (fun m e => kvadd m e.1 e.2) m)
  | [], m => .nil
  | e :: es, m => .cons (val m e.1 + e.2) (Int.natCast_add _ _).symm (steps_nat es _)
theorem steps_of (es : KV) : Steps [] (zOf es) (kvOf es) := steps_nat es []
def stI (e : (Nat × Nat) × Int) : T := .lst none [nT e.1.1, nT e.1.2, .int e.2]
theorem zOf_st (es : KV) : (zOf es).map stI = es.map stL := by
  unfold zOf
  rw [List.map_map]
  rfl
theorem kvput_len (m : KV) (k : Nat × Nat) (w : Nat) : (kvput m k w).length ≤ m.length + 1 := by
  have := congrArg List.length (kvput_keys m k w)
  have e1 : (kvkeys (kvput m k w)).length = (kvput m k w).length := by unfold kvkeys; rw [List.length_map]
  have e2 : (kvkeys m).length = m.length := by unfold kvkeys; rw [List.length_map]
  rw [e1] at this
  rw [this]
  split
  · omega
  · rw [List.length_append, e2]; exact Nat.le_refl _
theorem Steps.len {m m' : KV} {es : ZV} (h : Steps m es m') : m'.length ≤ m.length + es.length := by
  induction h with
  | nil => exact Nat.le_refl _
  | @cons m m' k l es w hw t ih =>
    have := kvput_len m k w
    rw [List.length_cons]
    omega
end Lw

set_option Elab.async false
set_option linter.all false
set_option maxRecDepth 100000
set_option maxHeartbeats 4000000
namespace Lw
open PySem L2 Py
/-! ### equal flat lists -/
inductive FlatS : T → Prop
  | non : FlatS .non
  | bl (b : Bool) : FlatS (.bl b)
  | int (z : Int) : FlatS (.int z)
  | str (z : Str) (h : PyData.canLayAll0 [.str z] = true) : FlatS (.str z)
theorem eq_flat (ts : List T) (hf : ∀ x ∈ ts, FlatS x) (g g' : Option Tag) : T.eq (.lst g ts) (.lst g' ts) = some (.bl true) ∧ T.ne (.lst g ts) (.lst g' ts) = some (.bl false) := by
  have p : ∀ ts : List T, (∀ x ∈ ts, FlatS x) → ∃ ds, T.pds ts = some ds ∧ PyData.canLayAll0 ds = true ∧ PyData.depthAll ds = 0 ∧ PyData.eqvAll ds ds = true := fun ts => by
    induction ts with
    | nil => exact fun _ => ⟨[], rfl, rfl, rfl, rfl⟩
    | cons x l ih =>
      intro h
      obtain ⟨ds, q1, q2, q3, q4⟩ := ih fun y hy => h y (List.mem_cons_of_mem _ hy)
      have hx : ∃ dx, T.pd x = some dx ∧ PyData.canLayAll0 (dx :: ds) = PyData.canLayAll0 ds ∧ PyData.depthAll (dx :: ds) = max 0 (PyData.depthAll ds) ∧ PyData.eqvAll (dx :: ds) (dx :: ds) = PyData.eqvAll ds ds := by
        cases h x List.mem_cons_self with
        | non => exact ⟨_, rfl, rfl, rfl, rfl⟩
        | bl b =>
          refine ⟨_, rfl, rfl, rfl, ?_⟩
          show ((b == b) && PyData.eqvAll ds ds) = _
          rw [beq_self_eq_true]
          rfl
        | int b =>
          refine ⟨_, rfl, rfl, rfl, ?_⟩
          show ((b == b) && PyData.eqvAll ds ds) = _
          rw [beq_self_eq_true]
          rfl
        | str b hb =>
          refine ⟨_, rfl, ?_, rfl, ?_⟩
          · have hb' : (PyData.canLay0 (.str b) && true) = true := hb
            show (PyData.canLay0 (.str b) && PyData.canLayAll0 ds) = _
            rw [Bool.and_true] at hb'
            rw [hb']
            rfl
          · show ((b == b) && PyData.eqvAll ds ds) = _
            rw [beq_self_eq_true]
            rfl
      obtain ⟨dx, e1, e2, e3, e4⟩ := hx
      refine ⟨dx :: ds, ?_, by rw [e2, q2], by rw [e3, q3]; rfl, by rw [e4, q4]⟩
      show (match T.pd x, T.pds l with | some d, some ds => some (d :: ds) | _, _ => none) = _
      rw [e1, q1]
  obtain ⟨ds, q1, q2, q3, q4⟩ := p ts hf
  have sh : SeqAt.shaped (.list ds) = true := by
    show (PyData.canLayAll0 ds && decide (PyData.depthAll ds + 1 ≤ 64)) = true
    rw [q2, q3]
    rfl
  constructor
  · show (match (T.pds ts).map PyData.list, (T.pds ts).map PyData.list with
      | some d, some e => if SeqAt.shaped d && SeqAt.shaped e then some (T.bl (PyData.eqv d e)) else none
      | _, _ => none) = _
    rw [q1]
    show (if (SeqAt.shaped (.list ds) && SeqAt.shaped (.list ds)) = true then some (T.bl (PyData.eqvAll ds ds)) else none) = _
    rw [sh, q4]
    rfl
  · show (match (T.pds ts).map PyData.list, (T.pds ts).map PyData.list with
      | some d, some e => if SeqAt.shaped d && SeqAt.shaped e then some (T.bl (!PyData.eqv d e)) else none
      | _, _ => none) = _
    rw [q1]
    show (if (SeqAt.shaped (.list ds) && SeqAt.shaped (.list ds)) = true then some (T.bl (!PyData.eqvAll ds ds)) else none) = _
    rw [sh, q4]
    rfl
/-! ### the checks -/

/-! ### lists of lists of plain things are like themselves -/
theorem flat_ds (ts : List T) (hf : ∀ x ∈ ts, FlatS x) : ∃ ds, T.pds ts = some ds ∧ PyData.canLayAll0 ds = true ∧ PyData.depthAll ds = 0 ∧ PyData.eqvAll ds ds = true := by
  induction ts with
  | nil => exact ⟨[], rfl, rfl, rfl, rfl⟩
  | cons x l ih =>
    obtain ⟨ds, q1, q2, q3, q4⟩ := ih fun y hy => hf y (List.mem_cons_of_mem _ hy)
    have hx : ∃ dx, T.pd x = some dx ∧ PyData.canLayAll0 (dx :: ds) = PyData.canLayAll0 ds ∧ PyData.depthAll (dx :: ds) = max 0 (PyData.depthAll ds) ∧ PyData.eqvAll (dx :: ds) (dx :: ds) = PyData.eqvAll ds ds := by
      cases hf x List.mem_cons_self with
      | non => exact ⟨_, rfl, rfl, rfl, rfl⟩
      | bl b =>
        refine ⟨_, rfl, rfl, rfl, ?_⟩
        show ((b == b) && PyData.eqvAll ds ds) = _
        rw [beq_self_eq_true]
        rfl
      | int b =>
        refine ⟨_, rfl, rfl, rfl, ?_⟩
        show ((b == b) && PyData.eqvAll ds ds) = _
        rw [beq_self_eq_true]
        rfl
      | str b hb =>
        refine ⟨_, rfl, ?_, rfl, ?_⟩
        · have hb' : (PyData.canLay0 (.str b) && true) = true := hb
          show (PyData.canLay0 (.str b) && PyData.canLayAll0 ds) = _
          rw [Bool.and_true] at hb'
          rw [hb']
          rfl
        · show ((b == b) && PyData.eqvAll ds ds) = _
          rw [beq_self_eq_true]
          rfl
    obtain ⟨dx, e1, e2, e3, e4⟩ := hx
    refine ⟨dx :: ds, ?_, by rw [e2, q2], by rw [e3, q3]; rfl, by rw [e4, q4]⟩
    show (match T.pd x, T.pds l with | some d, some ds => some (d :: ds) | _, _ => none) = _
    rw [e1, q1]
theorem nest_ds {β : Type} (f : β → List T) (hf : ∀ b, ∀ x ∈ f b, FlatS x) : ∀ l : List β, ∃ ds, T.pds (l.map fun b => .lst none (f b)) = some ds ∧ PyData.canLayAll0 ds = true ∧ PyData.depthAll ds ≤ 1 ∧ PyData.eqvAll ds ds = true
  | [] => ⟨[], rfl, rfl, Nat.zero_le _, rfl⟩
  | b :: l => by
    obtain ⟨ds, q1, q2, q3, q4⟩ := nest_ds f hf l
    obtain ⟨xs, p1, p2, p3, p4⟩ := flat_ds (f b) (hf b)
    refine ⟨.list xs :: ds, ?_, ?_, ?_, ?_⟩
    · show (match (T.pds (f b)).map PyData.list, T.pds (l.map fun b => .lst none (f b)) with | some d, some ds => some (d :: ds) | _, _ => none) = _
      rw [p1, q1]
      rfl
    · show (PyData.canLayAll0 xs && PyData.canLayAll0 ds) = true
      rw [p2, q2]
      rfl
    · show max (PyData.depthAll xs + 1) (PyData.depthAll ds) ≤ 1
      rw [p3]
      omega
    · show (PyData.eqvAll xs xs && PyData.eqvAll ds ds) = true
      rw [p4, q4]
      rfl
theorem nest_self {β : Type} (f : β → List T) (hf : ∀ b, ∀ x ∈ f b, FlatS x) (l : List β) (g g' : Option Tag) : T.eq (.lst g (l.map fun b => .lst none (f b))) (.lst g' (l.map fun b => .lst none (f b))) = some (.bl true) ∧ T.ne (.lst g (l.map fun b => .lst none (f b))) (.lst g' (l.map fun b => .lst none (f b))) = some (.bl false) := by
  obtain ⟨ds, q1, q2, q3, q4⟩ := nest_ds f hf l
  have sh : SeqAt.shaped (.list ds) = true := by
    show (PyData.canLayAll0 ds && decide (PyData.depthAll ds + 1 ≤ 64)) = true
    rw [q2, decide_eq_true (by omega)]
    rfl
  constructor
  · show (match (T.pds (l.map fun b => .lst none (f b))).map PyData.list, (T.pds (l.map fun b => .lst none (f b))).map PyData.list with
      | some d, some e => if SeqAt.shaped d && SeqAt.shaped e then some (T.bl (PyData.eqv d e)) else none
      | _, _ => none) = _
    rw [q1]
    show (if (SeqAt.shaped (.list ds) && SeqAt.shaped (.list ds)) = true then some (T.bl (PyData.eqvAll ds ds)) else none) = _
    rw [sh, q4]
    rfl
  · show (match (T.pds (l.map fun b => .lst none (f b))).map PyData.list, (T.pds (l.map fun b => .lst none (f b))).map PyData.list with
      | some d, some e => if SeqAt.shaped d && SeqAt.shaped e then some (T.bl (!PyData.eqv d e)) else none
      | _, _ => none) = _
    rw [q1]
    show (if (SeqAt.shaped (.list ds) && SeqAt.shaped (.list ds)) = true then some (T.bl (!PyData.eqvAll ds ds)) else none) = _
    rw [sh, q4]
    rfl
theorem st_self (st : KV) (g g' : Option Tag) : T.eq (.lst g (st.map stL)) (.lst g' (st.map stL)) = some (.bl true) ∧ T.ne (.lst g (st.map stL)) (.lst g' (st.map stL)) = some (.bl false) :=
  nest_self (fun e : (Nat × Nat) × Nat => [nT e.1.1, nT e.1.2, nT e.2]) (fun e x hx => by
    simp only [List.mem_cons, List.not_mem_nil, or_false] at hx
    rcases hx with rfl | rfl | rfl <;> exact .int _) st g g'
theorem ne_tup (ts : List T) (hf : ∀ x ∈ ts, FlatS x) : T.ne (.tup ts) (.tup ts) = some (.bl false) := by
  have h := (eq_flat ts hf none none).2
  have e1 : T.ne (.tup ts) (.tup ts) = (match (T.pds ts).map PyData.tuple, (T.pds ts).map PyData.tuple with
    | some d, some e => if SeqAt.shaped d && SeqAt.shaped e then some (.bl (!PyData.eqv d e)) else none
    | _, _ => none) := rfl
  have e2 : T.ne (.lst none ts) (.lst none ts) = (match (T.pds ts).map PyData.list, (T.pds ts).map PyData.list with
    | some d, some e => if SeqAt.shaped d && SeqAt.shaped e then some (.bl (!PyData.eqv d e)) else none
    | _, _ => none) := rfl
  rw [e1]
  rw [e2] at h
  cases z : T.pds ts with
  | none => rw [z] at h; cases h
  | some ds => rw [z] at h; exact h
theorem flat_nm {l : List Nat} (h : Nm l) : FlatS (nmT l) := .str _ (by
  show (PyData.strOk (strL (l.map sgc)) && true) = true
  rw [Bool.and_true]
  show (Array.all (l.map sgc).toArray fun x => decide (x < 1114112)) = true
  rw [List.all_toArray, List.all_eq_true]
  intro x hx
  obtain ⟨i, hi, rfl⟩ := List.mem_map.mp hx
  have := h.sg i hi
  unfold sgc
  refine decide_eq_true ?_
  split <;> omega)
theorem flat_nats {l : List Nat} : ∀ x ∈ l.map nT, FlatS x := fun x hx => by
  obtain ⟨i, _, rfl⟩ := List.mem_map.mp hx
  exact .int _
end Lw

set_option Elab.async false
set_option linter.all false
set_option maxRecDepth 100000
set_option maxHeartbeats 4000000
namespace Py
open PySem L2
/-! ### trees of plain things, of any depth: like themselves -/
inductive Pl : Nat → T → Prop
  | non {n : Nat} : Pl n .non
  | bl {n : Nat} (b : Bool) : Pl n (.bl b)
  | int {n : Nat} (z : Int) : Pl n (.int z)
  | str {n : Nat} {z : Str} (h : PyData.strOk z = true) : Pl n (.str z)
  | lst {n : Nat} {g : Option Tag} {ts : List T} (h : ∀ t ∈ ts, Pl n t) : Pl (n + 1) (.lst g ts)
  | ro {n : Nat} {ts : List T} (h : ∀ t ∈ ts, Pl n t) : Pl (n + 1) (.ro ts)
  | tup {n : Nat} {ts : List T} (h : ∀ t ∈ ts, Pl n t) : Pl (n + 1) (.tup ts)
structure PlD (n : Nat) (t : T) : Prop where
  ex : ∃ d, T.pd t = some d ∧ PyData.canLay0 d = true ∧ PyData.depth d ≤ n ∧ PyData.eqv d d = true
theorem plds {n : Nat} : ∀ {ts : List T}, (∀ t ∈ ts, PlD n t) → ∃ ds, T.pds ts = some ds ∧ PyData.canLayAll0 ds = true ∧ PyData.depthAll ds ≤ n ∧ PyData.eqvAll ds ds = true
  | [], _ => ⟨[], rfl, rfl, Nat.zero_le _, rfl⟩
  | t :: ts, h => by
    obtain ⟨d, a1, a2, a3, a4⟩ := (h t List.mem_cons_self).ex
    obtain ⟨ds, b1, b2, b3, b4⟩ := plds fun u hu => h u (List.mem_cons_of_mem _ hu)
    refine ⟨d :: ds, ?_, ?_, ?_, ?_⟩
    · show (match T.pd t, T.pds ts with | some d, some ds => some (d :: ds) | _, _ => none) = _
      rw [a1, b1]
    · show (PyData.canLay0 d && PyData.canLayAll0 ds) = true
      rw [a2, b2]
      rfl
    · show max (PyData.depth d) (PyData.depthAll ds) ≤ n
      omega
    · show (PyData.eqv d d && PyData.eqvAll ds ds) = true
      rw [a4, b4]
      rfl
theorem Pl.d {n : Nat} {t : T} (h : Pl n t) : PlD n t := by
  induction h with
  | non => exact ⟨_, rfl, rfl, Nat.zero_le _, rfl⟩
  | bl b => exact ⟨_, rfl, rfl, Nat.zero_le _, beq_self_eq_true b⟩
  | int b => exact ⟨_, rfl, rfl, Nat.zero_le _, beq_self_eq_true b⟩
  | @str n z h => exact ⟨_, rfl, h, Nat.zero_le _, beq_self_eq_true z⟩
  | @lst n g ts _ ih =>
    obtain ⟨ds, q1, q2, q3, q4⟩ := plds ih
    exact ⟨.list ds, by show (T.pds ts).map PyData.list = _; rw [q1]; rfl, q2, Nat.succ_le_succ q3, q4⟩
  | @ro n ts _ ih =>
    obtain ⟨ds, q1, q2, q3, q4⟩ := plds ih
    exact ⟨.list ds, by show (T.pds ts).map PyData.list = _; rw [q1]; rfl, q2, Nat.succ_le_succ q3, q4⟩
  | @tup n ts _ ih =>
    obtain ⟨ds, q1, q2, q3, q4⟩ := plds ih
    exact ⟨.tuple ds, by show (T.pds ts).map PyData.tuple = _; rw [q1]; rfl, q2, Nat.succ_le_succ q3, q4⟩
theorem pl_eq {n : Nat} {t u : T} (h : Pl n t) (hn : n ≤ 60) (e : T.pd u = T.pd t) : T.eq t u = some (.bl true) ∧ T.ne t u = some (.bl false) := by
  obtain ⟨d, a1, a2, a3, a4⟩ := h.d.ex
  have sh : SeqAt.shaped d = true := by
    show (PyData.canLay0 d && decide (PyData.depth d ≤ 64)) = true
    rw [a2, decide_eq_true (by omega)]
    rfl
  constructor
  · unfold T.eq
    rw [e, a1]
    show (if (SeqAt.shaped d && SeqAt.shaped d) = true then some (T.bl (PyData.eqv d d)) else none) = _
    rw [sh, a4]
    rfl
  · unfold T.ne
    rw [e, a1]
    show (if (SeqAt.shaped d && SeqAt.shaped d) = true then some (T.bl (!PyData.eqv d d)) else none) = _
    rw [sh, a4]
    rfl
theorem pl_self {n : Nat} {t : T} (h : Pl n t) (hn : n ≤ 60) : T.eq t t = some (.bl true) ∧ T.ne t t = some (.bl false) := pl_eq h hn rfl
/-- a list, whatever its mark -/
theorem pl_lst {n : Nat} {ts : List T} {g g' : Option Tag} (h : ∀ t ∈ ts, Pl n t) (hn : n ≤ 50) : T.eq (.lst g ts) (.lst g' ts) = some (.bl true) ∧ T.ne (.lst g ts) (.lst g' ts) = some (.bl false) := pl_eq (n := n + 1) (.lst h) (by omega) rfl
theorem Pl.mono {n m : Nat} {t : T} (h : Pl n t) : n ≤ m → Pl m t := by
  induction h generalizing m with
  | non => exact fun _ => .non
  | bl b => exact fun _ => .bl b
  | int b => exact fun _ => .int b
  | str h => exact fun _ => .str h
  | lst _ ih =>
    intro hm
    obtain ⟨k, rfl⟩ : ∃ k, m = k + 1 := ⟨m - 1, by omega⟩
    exact .lst fun t ht => ih t ht (by omega)
  | ro _ ih =>
    intro hm
    obtain ⟨k, rfl⟩ : ∃ k, m = k + 1 := ⟨m - 1, by omega⟩
    exact .ro fun t ht => ih t ht (by omega)
  | tup _ ih =>
    intro hm
    obtain ⟨k, rfl⟩ : ∃ k, m = k + 1 := ⟨m - 1, by omega⟩
    exact .tup fun t ht => ih t ht (by omega)
theorem pl_nT {n : Nat} (k : Nat) : Pl n (nT k) := .int _
/-! ### texts by their codes -/
def sT (l : List Nat) : T := .str (strL l)
theorem strOk_of {l : List Nat} (h : ∀ c ∈ l, c < 1114112) : PyData.strOk (strL l) = true := by
  show (Array.all l.toArray fun x => decide (x < 1114112)) = true
  rw [List.all_toArray, List.all_eq_true]
  exact fun x hx => decide_eq_true (h x hx)
theorem pl_sT {n : Nat} {l : List Nat} (h : ∀ c ∈ l, c < 1114112) : Pl n (sT l) := .str (strOk_of h)
theorem str_eta (z : Str) : T.str z = sT z.cps.toList := by
  show T.str z = T.str ⟨z.cps.toList.toArray⟩
  rw [Array.toArray_toList]
def isL (c : Nat) : Bool := decide (97 ≤ c) && decide (c ≤ 122)
def isD (c : Nat) : Bool := decide (48 ≤ c) && decide (c ≤ 57)
theorem inT_one (a : List Nat) (c : Nat) : T.isInT true (sT [c]) (sT a) = some (.bl (!decide (c ∈ a))) := by
  have e : T.isInT true (sT [c]) (sT a) = some (.bl (!(!(Builtin.Str.occurrences (strL a) (strL [c]) 0 (strL a).length 1).isEmpty))) := rfl
  have h := StrLaws.found_one (strL a) c
  rw [e]
  have h2 : (!(Builtin.Str.occurrences (strL a) (strL [c]) 0 (strL a).length 1).isEmpty) = decide (c ∈ a) := h
  rw [h2]
theorem mem_let (c : Nat) : decide (c ∈ (List.range 26).map sgc) = isL c := by
  rw [Bool.eq_iff_iff, decide_eq_true_eq]
  unfold isL
  rw [Bool.and_eq_true, decide_eq_true_eq, decide_eq_true_eq, List.mem_map]
  constructor
  · rintro ⟨i, hi, rfl⟩
    have := List.mem_range.mp hi
    unfold sgc
    rw [if_pos this]
    omega
  · intro h
    refine ⟨c - 97, List.mem_range.mpr (by omega), ?_⟩
    unfold sgc
    rw [if_pos (by omega)]
    omega
theorem mem_sig (c : Nat) : decide (c ∈ (List.range 36).map sgc) = (isL c || isD c) := by
  rw [Bool.eq_iff_iff, decide_eq_true_eq]
  unfold isL isD
  rw [Bool.or_eq_true, Bool.and_eq_true, Bool.and_eq_true, decide_eq_true_eq, decide_eq_true_eq, decide_eq_true_eq, decide_eq_true_eq, List.mem_map]
  constructor
  · rintro ⟨i, hi, rfl⟩
    have := List.mem_range.mp hi
    unfold sgc
    split <;> omega
  · intro h
    by_cases q : 97 ≤ c
    · refine ⟨c - 97, List.mem_range.mpr (by omega), ?_⟩
      unfold sgc
      rw [if_pos (by omega)]
      omega
    · refine ⟨c - 22, List.mem_range.mpr (by omega), ?_⟩
      unfold sgc
      rw [if_neg (by omega)]
      omega
def digS : Str := "0123456789"
theorem digS_eq : digS = strL ((List.range 10).map (48 + ·)) := by decide +kernel
theorem mem_dig (c : Nat) : decide (c ∈ (List.range 10).map (48 + ·)) = isD c := by
  rw [Bool.eq_iff_iff, decide_eq_true_eq]
  unfold isD
  rw [Bool.and_eq_true, decide_eq_true_eq, decide_eq_true_eq, List.mem_map]
  constructor
  · rintro ⟨i, hi, rfl⟩
    have := List.mem_range.mp hi
    omega
  · intro h
    exact ⟨c - 48, List.mem_range.mpr (by omega), by omega⟩
theorem inT_let (c : Nat) : T.isInT true (sT [c]) (.str "abcdefghijklmnopqrstuvwxyz") = some (.bl (!isL c)) := by
  have h := inT_one ((List.range 26).map sgc) c
  rw [mem_let] at h
  rw [← h, sT, sT, ← letS_eq]
  rfl
theorem inT_sig (c : Nat) : T.isInT true (sT [c]) (.str "abcdefghijklmnopqrstuvwxyz0123456789") = some (.bl (!(isL c || isD c))) := by
  have h := inT_one ((List.range 36).map sgc) c
  rw [mem_sig] at h
  rw [← h, sT, sT, ← sigS_eq]
  rfl
theorem inT_dig (c : Nat) : T.isInT true (sT [c]) (.str "0123456789") = some (.bl (!isD c)) := by
  have h := inT_one ((List.range 10).map (48 + ·)) c
  rw [mem_dig] at h
  rw [← h, sT, sT, ← digS_eq]
  rfl
def sV (l : List Nat) : V := .str (strL l)
theorem fvs_sT : ∀ L : List (List Nat), T.fvs (L.map sT) = some (L.map sV)
  | [] => rfl
  | l :: L => by
    show (match T.fv (sT l), T.fvs (L.map sT) with | some v, some vs => some (v :: vs) | _, _ => none) = _
    rw [fvs_sT L]
    rfl
theorem isIn_sT (neg : Bool) (l : List Nat) (L : List (List Nat)) {y : T} (hy : T.items y = some (L.map sT)) : T.isIn neg (sT l) y = some (.bl (if neg then !decide (l ∈ L) else decide (l ∈ L))) := by
  have e2 : inV (sV l) (L.map sV) = decide (l ∈ L) := by
    unfold inV
    rw [Bool.eq_iff_iff, List.any_map, List.any_eq_true, decide_eq_true_eq]
    constructor
    · rintro ⟨x, hx, hh⟩
      have hh' : (strL x == strL l) = true := hh
      have h1 := strL_inj (eq_of_beq hh')
      exact h1 ▸ hx
    · intro h
      exact ⟨l, h, (beq_self_eq_true (strL l) : (strL l == strL l) = true)⟩
  unfold T.isIn
  rw [hy]
  show (match T.fvs (L.map sT) with
    | some vs => some (T.bl (if neg then !inV (sV l) vs else inV (sV l) vs))
    | none => none) = _
  rw [fvs_sT]
  show some (T.bl (if neg then !inV (sV l) (L.map sV) else inV (sV l) (L.map sV))) = _
  rw [e2]
theorem add_sT {a b : List Nat} (h : a.length + b.length ≤ 1000000) : T.add (sT a) (sT b) = some (sT (a ++ b)) := add_str h
theorem len_sT {a : List Nat} (h : a.length ≤ 1000000) : B.len [sT a] = some (nT a.length) := len_str h
theorem ix_sT {l : List Nat} {k : Nat} (hk : k < l.length) (hl : l.length ≤ 1000000) : T.ix (sT l) (nT k) = some (sT [l[k]]) := ix_str hk hl
theorem signs_sT (l : List Nat) : T.signs (sT l) = some (l.map fun c => sT [c]) := by
  show some (((strL l).cps.toList).map fun c => T.str ⟨#[c]⟩) = _
  rw [show (strL l).cps.toList = l from rfl]
  rfl
theorem isi_sT (l : List Nat) {c : String} : T.isi c (sT l) = (kitB "str" c).map .bl := rfl
/-! ### xs.reverse(), list(reversed(xs)) -/
def revK (i : Nat) (env : Fv) : Option (Option Sl) → RS
  | some (some (.ol ts)) => .nx (env.set i (some (.ol ts.reverse)))
  | _ => .stuck
@[simp] theorem ev_rev (i : Nat) (env : Fv) : S.rev i env = revK i env env[i]? := by
  unfold S.rev revK
  rfl
@[simp] theorem revK_ol {i : Nat} {env : Fv} {ts : List T} : revK i env (some (some (.ol ts))) = .nx (env.set i (some (.ol ts.reverse))) := nrfl rfl
@[simp] theorem revL_lst {g : Option Tag} {ts : List T} : T.revL (.lst g ts) = some (.lst none ts.reverse) := nrfl rfl
@[simp] theorem appC_ev {dts : List T} {a : P.Ax} {env : Fv} : P.appC dts a env = (a env).bind fun xs => .ok (xs ++ dts) := nrfl rfl
theorem rng_nat (n : Nat) : rng 0 n = (List.range n).map nT := by
  unfold rng
  refine List.map_congr_left fun k _ => ?_
  show T.int (0 + (k : Int)) = T.int _
  rw [Int.zero_add]
theorem flat_nat (l : List Nat) : flatAll (l.map nT) = true := List.all_eq_true.mpr fun x hx => by
  obtain ⟨k, _, rfl⟩ := List.mem_map.mp hx
  rfl
end Py

set_option Elab.async false
set_option linter.all false
set_option maxRecDepth 100000
set_option maxHeartbeats 4000000
/-! k18: printed by gen18.py -/
namespace Lw
open PySem L2 Py
theorem digits_eq (d : Nat) (ts : List T) : f__law_digits d ts = Py.run 8 (LL.S_digits d) ts := rfl
theorem cell_eq (d : Nat) (ts : List T) : f__law_cell d ts = Py.run 4 (LL.S_cell d) ts := rfl
def lp (d : Nat) : Sx := S.forX (S.tName 4) (P.rng2 (P.cons (P.un T.neg (P.c (.int 3))) (P.cons (P.bin T.add (P.var d 2) (P.c (.int 5))) P.nil)))
  (S.ite (P.tb (P.chain T.lt T.lt (P.c (.int 0)) (P.var d 4) (P.var d 2)))
  (S.seq (S.asg 5 (P.call (f_side (d + 1)) (P.cons (P.var d 0) (P.cons (P.var d 4) P.nil))))
  (S.seq (S.asg 6 (P.var d 4))
  (S.seq (S.ite (P.tb (P.bin T.eq (P.bin T.mod (P.call (fun ts => .of (B.int ts)) (P.cons (P.var d 4) P.nil)) (P.c (.int 2))) (P.c (.int 1))))
  (S.asg 6 (P.bin T.sub (P.var d 2) (P.var d 4)))
  S.skip)
  (S.seq (S.ite (P.or (P.not (P.tb (P.call (f__law_whole (d + 1)) (P.cons (P.var d 5) P.nil)))) (P.or (P.tb (P.bin T.ne (P.var d 5) (P.var d 6))) (P.tb (P.bin T.ne (P.call (f_side (d + 1)) (P.cons (P.var d 0) (P.cons (P.bin T.sub (P.var d 2) (P.var d 4)) P.nil))) (P.var d 5)))))
  (S.ret (P.c (.bl false)))
  S.skip)
  (S.ite (P.tb (P.bin (T.isIn true) (P.var d 5) (P.var d 3)))
  (S.app 3 (P.var d 5))
  S.skip)))))
  (S.ite (P.not (P.tb (P.call (f__law_refused (d + 1)) (P.cons (P.var d 0) (P.cons (P.var d 4) P.nil)))))
  (S.ret (P.c (.bl false)))
  S.skip))
theorem turns_c {tg : T → Fv → Option Fv} {body : Sx} {t : T} {ts : List T} {env e1 : Fv} (h : tg t env = some e1) (e2 : Fv) (hb : body e1 = .nx e2) : S.turns tg body (t :: ts) env = S.turns tg body ts e2 := by
  show (match tg t env with | some env1 => (match body env1 with | .nx env => S.turns tg body ts env | .ct env => S.turns tg body ts env | .br env => .nx env | r => r) | none => .stuck) = _
  rw [h]
  show (match body e1 with | .nx env => S.turns tg body ts env | .ct env => S.turns tg body ts env | .br env => .nx env | r => r) = _
  rw [hb]
theorem ev_whole (d : Nat) (i : Int) : f_is_whole d [.int i] = .ok (.bl true) := by kernel_rfl
/-- what side does not take -/
inductive Bad (m : Int) : T → Prop where
  | lo {i : Int} (h : i ≤ 0) : Bad m (.int i)
  | hi {i : Int} (h : 2 ^ m.toNat - 1 ≤ i) : Bad m (.int i)
  | bl (b : Bool) : Bad m (.bl b)
  | str : Bad m (.str "2")
  | non : Bad m .non
  | l2 : Bad m (.lst none [.int 2])
  | t2 : Bad m (.tup [.int 2])
theorem Bad.pl {m : Int} {t : T} (h : Bad m t) : Pl 1 t := by
  cases h with
  | lo h => exact .int _
  | hi h => exact .int _
  | bl b => exact .bl _
  | str => exact .str (by decide +kernel)
  | non => exact .non
  | l2 => exact .lst fun t ht => by rw [List.mem_singleton.mp ht]; exact .int _
  | t2 => exact .tup fun t ht => by rw [List.mem_singleton.mp ht]; exact .int _
theorem ev_sl {d : Nat} {m i : Int} (h0 : 0 ≤ m) (h1 : m ≤ 1000) : f_is_side_lot d [.int m, .int i] = .ok (.bl (decide (0 < i) && decide (i < 2 ^ m.toNat - 1))) := by
  have hs := shl_one (j := m) h0 (by omega)
  by_cases h : 0 < i
  · simp [f_is_side_lot, run_eq, ent_eq, S_is_side_lot, ev_whole, hs, h]
  · simp [f_is_side_lot, run_eq, ent_eq, S_is_side_lot, ev_whole, hs, h]
theorem ev_slbad {d : Nat} {m : Int} {t : T} (h0 : 0 ≤ m) (h1 : m ≤ 1000) (h : Bad m t) : f_is_side_lot d [.int m, t] = .ok (.bl false) := by
  have w2 : ∀ b, f_is_whole (d + 1) [.bl b] = .ok (.bl false) := fun b => by kernel_rfl
  have w3 : f_is_whole (d + 1) [.str "2"] = .ok (.bl false) := by kernel_rfl
  have w4 : f_is_whole (d + 1) [.non] = .ok (.bl false) := by kernel_rfl
  have w5 : f_is_whole (d + 1) [.lst none [.int 2]] = .ok (.bl false) := by kernel_rfl
  have w6 : f_is_whole (d + 1) [.tup [.int 2]] = .ok (.bl false) := by kernel_rfl
  cases h with
  | lo h => rw [ev_sl h0 h1]; simp; omega
  | hi h => rw [ev_sl h0 h1]; simp; omega
  | bl b => simp [f_is_side_lot, run_eq, ent_eq, S_is_side_lot, w2]
  | str => simp [f_is_side_lot, run_eq, ent_eq, S_is_side_lot, w3]
  | non => simp [f_is_side_lot, run_eq, ent_eq, S_is_side_lot, w4]
  | l2 => simp [f_is_side_lot, run_eq, ent_eq, S_is_side_lot, w5]
  | t2 => simp [f_is_side_lot, run_eq, ent_eq, S_is_side_lot, w6]
theorem ev_sidebad {d : Nat} {m : Int} {t : T} (h0 : 0 ≤ m) (h1 : m ≤ 1000) (h : Bad m t) : f_side d [.int m, t] = .er ⟨2, ["lot"], [t]⟩ := by
  have hl := ev_slbad (d := d + 1) h0 h1 h
  simp [f_side, run_eq, ent_eq, S_side, hl]
theorem refused_ev {d : Nat} {m : Int} {t : T} (h0 : 0 ≤ m) (h1 : m ≤ 1000) (h : Bad m t) : f__law_refused d [.int m, t] = .ok (.bl true) := by
  have hs := ev_sidebad (d := d + 1) h0 h1 h
  have e1 : tab_BadLot 2 = some true := rfl
  have e2 : tab_TownError 2 = some true := rfl
  have e3 : tab_BadName 2 = some false := rfl
  have e4 : tab_ValueError 2 = some true := rfl
  have eq2 := (pl_lst (ts := [t]) (g := none) (g' := none) (n := 1) (fun u hu => by rw [List.mem_singleton.mp hu]; exact h.pl) (by omega)).1
  cases h with
  | str =>
    have hx : xflat ⟨2, ["lot"], [T.str "2"]⟩ = true := rfl
    simp [f__law_refused, run_eq, ent_eq, S__law_refused, hs, hx, tryK_er, e1, e2, e3, e4, eq2, noX, noXs, lfit_ok]
  | lo h =>
    have hx : ∀ i, xflat ⟨2, ["lot"], [T.int i]⟩ = true := fun _ => rfl
    simp [f__law_refused, run_eq, ent_eq, S__law_refused, hs, hx, tryK_er, e1, e2, e3, e4, eq2, noX, noXs, lfit_ok]
  | hi h =>
    have hx : ∀ i, xflat ⟨2, ["lot"], [T.int i]⟩ = true := fun _ => rfl
    simp [f__law_refused, run_eq, ent_eq, S__law_refused, hs, hx, tryK_er, e1, e2, e3, e4, eq2, noX, noXs, lfit_ok]
  | bl b =>
    have hx : xflat ⟨2, ["lot"], [T.bl b]⟩ = true := rfl
    simp [f__law_refused, run_eq, ent_eq, S__law_refused, hs, hx, tryK_er, e1, e2, e3, e4, eq2, noX, noXs, lfit_ok]
  | non =>
    have hx : xflat ⟨2, ["lot"], [T.non]⟩ = true := rfl
    simp [f__law_refused, run_eq, ent_eq, S__law_refused, hs, hx, tryK_er, e1, e2, e3, e4, eq2, noX, noXs, lfit_ok]
  | l2 =>
    simp [f__law_refused, run_eq, ent_eq, S__law_refused, hs, tryK_er, e1, e2, e3, e4, eq2, noX, noXs, lfit_ok]
  | t2 =>
    simp [f__law_refused, run_eq, ent_eq, S__law_refused, hs, tryK_er, e1, e2, e3, e4, eq2, noX, noXs, lfit_ok]
theorem loop3 (d : Nat) (al : List Int) (m far full : T) (seen : List T) (o4 o5 o6 o7 : Option Sl) : sat { nx := fun e => ∃ o4, e = [some (.fz m), some (.fz far), some (.fz full), some (.ol seen), o4, o5, o6, o7, some (.fz (.lst none (al.map T.int))), none], rt := fun t => t = .bl true }
    (S.turns (S.tName 4) (S.ite (P.not (P.tb (P.call (f__law_whole (d + 1)) (P.cons (P.var d 4) P.nil)))) (S.ret (P.c (.bl false))) S.skip) (al.map T.int) [some (.fz m), some (.fz far), some (.fz full), some (.ol seen), o4, o5, o6, o7, some (.fz (.lst none (al.map T.int))), none]) := by
  have w1 : ∀ i : Int, f__law_whole (d + 1) [.int i] = .ok (.bl true) := fun i => by kernel_rfl
  refine sat_for (fun _ e => ∃ o4, e = [some (.fz m), some (.fz far), some (.fz full), some (.ol seen), o4, o5, o6, o7, some (.fz (.lst none (al.map T.int))), none]) ⟨o4, rfl⟩ (fun k x e hx ⟨o, he⟩ => ?_) fun e h => h
  subst he
  rw [List.getElem?_map] at hx
  cases z : al[k]? with
  | none => rw [z] at hx; cases hx
  | some i =>
    rw [z] at hx
    cases hx
    refine ⟨_, rfl, ?_⟩
    generalize al.map T.int = L
    simp [w1]
theorem lp_2 (d : Nat) (far : T) : lp d [some (.fz (.int 2)), some (.fz far), some (.fz (.int 3)), some (.ol []), none, none, none, none, none, none] = .nx [some (.fz (.int 2)), some (.fz far), some (.fz (.int 3)), some (.ol [.int 2]), some (.fz (.int 7)), some (.fz (.int 2)), some (.fz (.int 2)), none, none, none] := by
  kernel_rfl
theorem as_2 (d : Nat) : f_all_sides d [.int 2] = .ok [.int 2] := by
  kernel_rfl
theorem so_2 (g : Option Tag) : B.sorted [.lst g [.int 2]] = some (.lst none [.int 2]) := by
  refine (sorted_nats [2] g).trans ?_
  rw [← srt_unique (l := [2]) (m := [2]) (by decide) (by decide)]
  rfl
theorem hold_2 (d a b c : Nat) : f__law_holds d [.int 2, .lst none [nT a, nT b, nT c]] = .ok (.bl true) := by
  have r1 : ∀ t, Bad 2 t → f__law_refused (d + 1) [.int 2, t] = .ok (.bl true) := fun t h => refused_ev (by omega) (by omega) h
  have q1 := r1 _ (.hi (i := 7 + (a : Int)) (by show (3 : Int) ≤ _; omega))
  have q2 := r1 _ (.lo (i := -4 - (b : Int)) (by omega))
  have q3 := r1 _ (.hi (i := 6 + (c : Int)) (by show (3 : Int) ≤ _; omega))
  have q4 := r1 _ (.bl true)
  have q5 := r1 _ (.bl false)
  have q6 := r1 _ .non
  have q7 := r1 _ (.str)
  have q8 := r1 _ .l2
  have q9 := r1 _ .t2
  have w1 : ∀ i : Int, f__law_whole (d + 1) [.int i] = .ok (.bl true) := fun i => by kernel_rfl
  have as1 := as_2 (d + 1)
  have so1 := so_2 (some (d, 3))
  refine run_is ?_
  unfold S__law_holds
  refine sat_step (e1 := [some (.fz (.int 2)), some (.fz (.lst none [nT a, nT b, nT c])), some (.fz (.int 3)), none, none, none, none, none, none, none]) (by kernel_rfl) ?_
  refine sat_step (e1 := [some (.fz (.int 2)), some (.fz (.lst none [nT a, nT b, nT c])), some (.fz (.int 3)), some (.ol []), none, none, none, none, none, none]) (by kernel_rfl) ?_
  refine sat_step (lp_2 d (.lst none [nT a, nT b, nT c])) ?_
  refine sat_step (e1 := [some (.fz (.int 2)), some (.fz (.lst none [nT a, nT b, nT c])), some (.fz (.int 3)), some (.ol [.int 2]), some (.fz (.int 7)), some (.fz (.int 2)), some (.fz (.int 2)), some (.fz (.tup [.int 2])), none, none]) (by
    have m1 : T.mul (.int 2) (.int 3) = some (.int 6) := by kernel_rfl
    simp [m1]
    refine (turns_c (e1 := [some (.fz (.int 2)), some (.fz (.lst none [nT a, nT b, nT c])), some (.fz (.int 3)), some (.ol [.int 2]), some (.fz (.int 7)), some (.fz (.int 2)), some (.fz (.int 2)), some (.fz (.int (7 + (a : Int)))), none, none]) rfl [some (.fz (.int 2)), some (.fz (.lst none [nT a, nT b, nT c])), some (.fz (.int 3)), some (.ol [.int 2]), some (.fz (.int 7)), some (.fz (.int 2)), some (.fz (.int 2)), some (.fz (.int (7 + (a : Int)))), none, none] (by simp [q1])).trans ?_
    refine (turns_c (e1 := [some (.fz (.int 2)), some (.fz (.lst none [nT a, nT b, nT c])), some (.fz (.int 3)), some (.ol [.int 2]), some (.fz (.int 7)), some (.fz (.int 2)), some (.fz (.int 2)), some (.fz (.int (-4 - (b : Int)))), none, none]) rfl [some (.fz (.int 2)), some (.fz (.lst none [nT a, nT b, nT c])), some (.fz (.int 3)), some (.ol [.int 2]), some (.fz (.int 7)), some (.fz (.int 2)), some (.fz (.int 2)), some (.fz (.int (-4 - (b : Int)))), none, none] (by simp [q2])).trans ?_
    refine (turns_c (e1 := [some (.fz (.int 2)), some (.fz (.lst none [nT a, nT b, nT c])), some (.fz (.int 3)), some (.ol [.int 2]), some (.fz (.int 7)), some (.fz (.int 2)), some (.fz (.int 2)), some (.fz (.int (6 + (c : Int)))), none, none]) rfl [some (.fz (.int 2)), some (.fz (.lst none [nT a, nT b, nT c])), some (.fz (.int 3)), some (.ol [.int 2]), some (.fz (.int 7)), some (.fz (.int 2)), some (.fz (.int 2)), some (.fz (.int (6 + (c : Int)))), none, none] (by simp [q3])).trans ?_
    refine (turns_c (e1 := [some (.fz (.int 2)), some (.fz (.lst none [nT a, nT b, nT c])), some (.fz (.int 3)), some (.ol [.int 2]), some (.fz (.int 7)), some (.fz (.int 2)), some (.fz (.int 2)), some (.fz (.bl true)), none, none]) rfl [some (.fz (.int 2)), some (.fz (.lst none [nT a, nT b, nT c])), some (.fz (.int 3)), some (.ol [.int 2]), some (.fz (.int 7)), some (.fz (.int 2)), some (.fz (.int 2)), some (.fz (.bl true)), none, none] (by simp [q4])).trans ?_
    refine (turns_c (e1 := [some (.fz (.int 2)), some (.fz (.lst none [nT a, nT b, nT c])), some (.fz (.int 3)), some (.ol [.int 2]), some (.fz (.int 7)), some (.fz (.int 2)), some (.fz (.int 2)), some (.fz (.bl false)), none, none]) rfl [some (.fz (.int 2)), some (.fz (.lst none [nT a, nT b, nT c])), some (.fz (.int 3)), some (.ol [.int 2]), some (.fz (.int 7)), some (.fz (.int 2)), some (.fz (.int 2)), some (.fz (.bl false)), none, none] (by simp [q5])).trans ?_
    refine (turns_c (e1 := [some (.fz (.int 2)), some (.fz (.lst none [nT a, nT b, nT c])), some (.fz (.int 3)), some (.ol [.int 2]), some (.fz (.int 7)), some (.fz (.int 2)), some (.fz (.int 2)), some (.fz (.non)), none, none]) rfl [some (.fz (.int 2)), some (.fz (.lst none [nT a, nT b, nT c])), some (.fz (.int 3)), some (.ol [.int 2]), some (.fz (.int 7)), some (.fz (.int 2)), some (.fz (.int 2)), some (.fz (.non)), none, none] (by simp [q6])).trans ?_
    refine (turns_c (e1 := [some (.fz (.int 2)), some (.fz (.lst none [nT a, nT b, nT c])), some (.fz (.int 3)), some (.ol [.int 2]), some (.fz (.int 7)), some (.fz (.int 2)), some (.fz (.int 2)), some (.fz (.str "2")), none, none]) rfl [some (.fz (.int 2)), some (.fz (.lst none [nT a, nT b, nT c])), some (.fz (.int 3)), some (.ol [.int 2]), some (.fz (.int 7)), some (.fz (.int 2)), some (.fz (.int 2)), some (.fz (.str "2")), none, none] (by simp [q7])).trans ?_
    refine (turns_c (e1 := [some (.fz (.int 2)), some (.fz (.lst none [nT a, nT b, nT c])), some (.fz (.int 3)), some (.ol [.int 2]), some (.fz (.int 7)), some (.fz (.int 2)), some (.fz (.int 2)), some (.fz (.lst none [.int 2])), none, none]) rfl [some (.fz (.int 2)), some (.fz (.lst none [nT a, nT b, nT c])), some (.fz (.int 3)), some (.ol [.int 2]), some (.fz (.int 7)), some (.fz (.int 2)), some (.fz (.int 2)), some (.fz (.lst none [.int 2])), none, none] (by simp [q8])).trans ?_
    refine (turns_c (e1 := [some (.fz (.int 2)), some (.fz (.lst none [nT a, nT b, nT c])), some (.fz (.int 3)), some (.ol [.int 2]), some (.fz (.int 7)), some (.fz (.int 2)), some (.fz (.int 2)), some (.fz (.tup [.int 2])), none, none]) rfl [some (.fz (.int 2)), some (.fz (.lst none [nT a, nT b, nT c])), some (.fz (.int 3)), some (.ol [.int 2]), some (.fz (.int 7)), some (.fz (.int 2)), some (.fz (.int 2)), some (.fz (.tup [.int 2])), none, none] (by simp [q9])).trans ?_
    rfl) ?_
  refine sat_step (e1 := [some (.fz (.int 2)), some (.fz (.lst none [nT a, nT b, nT c])), some (.fz (.int 3)), some (.ol [.int 2]), some (.fz (.int 7)), some (.fz (.int 2)), some (.fz (.int 2)), some (.fz (.tup [.int 2])), some (.fz (.lst none [.int 2])), none]) (by
    simp [as1]) ?_
  have eL := pl_lst (ts := [.int 2]) (g := none) (g' := none) (n := 0) (fun t ht => by obtain ⟨i, _, rfl⟩ := List.mem_map.mp (show t ∈ ([2] : List Int).map T.int from ht); exact .int i) (by omega)
  refine sat_step (e1 := [some (.fz (.int 2)), some (.fz (.lst none [nT a, nT b, nT c])), some (.fz (.int 3)), some (.ol [.int 2]), some (.fz (.int 7)), some (.fz (.int 2)), some (.fz (.int 2)), some (.fz (.tup [.int 2])), some (.fz (.lst none [.int 2])), none]) (by
    have lc : P.lc [9] (S.tName 9) (P.rng2 (P.cons (P.c (.int 1)) (P.cons (P.bin T.shl (P.c (.int 1)) (P.bin T.sub (P.var d 0) (P.c (.int 1)))) P.nil))) P.yes (P.bin T.mul (P.c (.int 2)) (P.var d 9)) [some (.fz (.int 2)), some (.fz (.lst none [nT a, nT b, nT c])), some (.fz (.int 3)), some (.ol [.int 2]), some (.fz (.int 7)), some (.fz (.int 2)), some (.fz (.int 2)), some (.fz (.tup [.int 2])), some (.fz (.lst none [.int 2])), none] = .ok (.lst none [.int 2]) := by kernel_rfl
    simp [-ev_lc, lc, so1, eL.2]) ?_
  refine sat_seqI (fun e => ∃ o4, e = [some (.fz (.int 2)), some (.fz (.lst none [nT a, nT b, nT c])), some (.fz (.int 3)), some (.ol [.int 2]), o4, some (.fz (.int 2)), some (.fz (.int 2)), some (.fz (.tup [.int 2])), some (.fz (.lst none [.int 2])), none]) ?_ ?_
  · have hl := loop3 d [2] (.int 2) (.lst none [nT a, nT b, nT c]) (.int 3) [.int 2] (some (.fz (.int 7))) (some (.fz (.int 2))) (some (.fz (.int 2))) (some (.fz (.tup [.int 2])))
    simp
    exact hl
  rintro e ⟨o4, rfl⟩
  simp [as1, eL.1]
theorem lp_3 (d : Nat) (far : T) : lp d [some (.fz (.int 3)), some (.fz far), some (.fz (.int 7)), some (.ol []), none, none, none, none, none, none] = .nx [some (.fz (.int 3)), some (.fz far), some (.fz (.int 7)), some (.ol [.int 6, .int 2, .int 4]), some (.fz (.int 11)), some (.fz (.int 6)), some (.fz (.int 6)), none, none, none] := by
  kernel_rfl
theorem as_3 (d : Nat) : f_all_sides d [.int 3] = .ok [.int 2, .int 4, .int 6] := by
  kernel_rfl
theorem so_3 (g : Option Tag) : B.sorted [.lst g [.int 6, .int 2, .int 4]] = some (.lst none [.int 2, .int 4, .int 6]) := by
  refine (sorted_nats [6, 2, 4] g).trans ?_
  rw [← srt_unique (l := [6, 2, 4]) (m := [2, 4, 6]) (by decide) (by decide)]
  rfl
theorem hold_3 (d a b c : Nat) : f__law_holds d [.int 3, .lst none [nT a, nT b, nT c]] = .ok (.bl true) := by
  have r1 : ∀ t, Bad 3 t → f__law_refused (d + 1) [.int 3, t] = .ok (.bl true) := fun t h => refused_ev (by omega) (by omega) h
  have q1 := r1 _ (.hi (i := 11 + (a : Int)) (by show (7 : Int) ≤ _; omega))
  have q2 := r1 _ (.lo (i := -4 - (b : Int)) (by omega))
  have q3 := r1 _ (.hi (i := 14 + (c : Int)) (by show (7 : Int) ≤ _; omega))
  have q4 := r1 _ (.bl true)
  have q5 := r1 _ (.bl false)
  have q6 := r1 _ .non
  have q7 := r1 _ (.str)
  have q8 := r1 _ .l2
  have q9 := r1 _ .t2
  have w1 : ∀ i : Int, f__law_whole (d + 1) [.int i] = .ok (.bl true) := fun i => by kernel_rfl
  have as1 := as_3 (d + 1)
  have so1 := so_3 (some (d, 3))
  refine run_is ?_
  unfold S__law_holds
  refine sat_step (e1 := [some (.fz (.int 3)), some (.fz (.lst none [nT a, nT b, nT c])), some (.fz (.int 7)), none, none, none, none, none, none, none]) (by kernel_rfl) ?_
  refine sat_step (e1 := [some (.fz (.int 3)), some (.fz (.lst none [nT a, nT b, nT c])), some (.fz (.int 7)), some (.ol []), none, none, none, none, none, none]) (by kernel_rfl) ?_
  refine sat_step (lp_3 d (.lst none [nT a, nT b, nT c])) ?_
  refine sat_step (e1 := [some (.fz (.int 3)), some (.fz (.lst none [nT a, nT b, nT c])), some (.fz (.int 7)), some (.ol [.int 6, .int 2, .int 4]), some (.fz (.int 11)), some (.fz (.int 6)), some (.fz (.int 6)), some (.fz (.tup [.int 2])), none, none]) (by
    have m1 : T.mul (.int 2) (.int 7) = some (.int 14) := by kernel_rfl
    simp [m1]
    refine (turns_c (e1 := [some (.fz (.int 3)), some (.fz (.lst none [nT a, nT b, nT c])), some (.fz (.int 7)), some (.ol [.int 6, .int 2, .int 4]), some (.fz (.int 11)), some (.fz (.int 6)), some (.fz (.int 6)), some (.fz (.int (11 + (a : Int)))), none, none]) rfl [some (.fz (.int 3)), some (.fz (.lst none [nT a, nT b, nT c])), some (.fz (.int 7)), some (.ol [.int 6, .int 2, .int 4]), some (.fz (.int 11)), some (.fz (.int 6)), some (.fz (.int 6)), some (.fz (.int (11 + (a : Int)))), none, none] (by simp [q1])).trans ?_
    refine (turns_c (e1 := [some (.fz (.int 3)), some (.fz (.lst none [nT a, nT b, nT c])), some (.fz (.int 7)), some (.ol [.int 6, .int 2, .int 4]), some (.fz (.int 11)), some (.fz (.int 6)), some (.fz (.int 6)), some (.fz (.int (-4 - (b : Int)))), none, none]) rfl [some (.fz (.int 3)), some (.fz (.lst none [nT a, nT b, nT c])), some (.fz (.int 7)), some (.ol [.int 6, .int 2, .int 4]), some (.fz (.int 11)), some (.fz (.int 6)), some (.fz (.int 6)), some (.fz (.int (-4 - (b : Int)))), none, none] (by simp [q2])).trans ?_
    refine (turns_c (e1 := [some (.fz (.int 3)), some (.fz (.lst none [nT a, nT b, nT c])), some (.fz (.int 7)), some (.ol [.int 6, .int 2, .int 4]), some (.fz (.int 11)), some (.fz (.int 6)), some (.fz (.int 6)), some (.fz (.int (14 + (c : Int)))), none, none]) rfl [some (.fz (.int 3)), some (.fz (.lst none [nT a, nT b, nT c])), some (.fz (.int 7)), some (.ol [.int 6, .int 2, .int 4]), some (.fz (.int 11)), some (.fz (.int 6)), some (.fz (.int 6)), some (.fz (.int (14 + (c : Int)))), none, none] (by simp [q3])).trans ?_
    refine (turns_c (e1 := [some (.fz (.int 3)), some (.fz (.lst none [nT a, nT b, nT c])), some (.fz (.int 7)), some (.ol [.int 6, .int 2, .int 4]), some (.fz (.int 11)), some (.fz (.int 6)), some (.fz (.int 6)), some (.fz (.bl true)), none, none]) rfl [some (.fz (.int 3)), some (.fz (.lst none [nT a, nT b, nT c])), some (.fz (.int 7)), some (.ol [.int 6, .int 2, .int 4]), some (.fz (.int 11)), some (.fz (.int 6)), some (.fz (.int 6)), some (.fz (.bl true)), none, none] (by simp [q4])).trans ?_
    refine (turns_c (e1 := [some (.fz (.int 3)), some (.fz (.lst none [nT a, nT b, nT c])), some (.fz (.int 7)), some (.ol [.int 6, .int 2, .int 4]), some (.fz (.int 11)), some (.fz (.int 6)), some (.fz (.int 6)), some (.fz (.bl false)), none, none]) rfl [some (.fz (.int 3)), some (.fz (.lst none [nT a, nT b, nT c])), some (.fz (.int 7)), some (.ol [.int 6, .int 2, .int 4]), some (.fz (.int 11)), some (.fz (.int 6)), some (.fz (.int 6)), some (.fz (.bl false)), none, none] (by simp [q5])).trans ?_
    refine (turns_c (e1 := [some (.fz (.int 3)), some (.fz (.lst none [nT a, nT b, nT c])), some (.fz (.int 7)), some (.ol [.int 6, .int 2, .int 4]), some (.fz (.int 11)), some (.fz (.int 6)), some (.fz (.int 6)), some (.fz (.non)), none, none]) rfl [some (.fz (.int 3)), some (.fz (.lst none [nT a, nT b, nT c])), some (.fz (.int 7)), some (.ol [.int 6, .int 2, .int 4]), some (.fz (.int 11)), some (.fz (.int 6)), some (.fz (.int 6)), some (.fz (.non)), none, none] (by simp [q6])).trans ?_
    refine (turns_c (e1 := [some (.fz (.int 3)), some (.fz (.lst none [nT a, nT b, nT c])), some (.fz (.int 7)), some (.ol [.int 6, .int 2, .int 4]), some (.fz (.int 11)), some (.fz (.int 6)), some (.fz (.int 6)), some (.fz (.str "2")), none, none]) rfl [some (.fz (.int 3)), some (.fz (.lst none [nT a, nT b, nT c])), some (.fz (.int 7)), some (.ol [.int 6, .int 2, .int 4]), some (.fz (.int 11)), some (.fz (.int 6)), some (.fz (.int 6)), some (.fz (.str "2")), none, none] (by simp [q7])).trans ?_
    refine (turns_c (e1 := [some (.fz (.int 3)), some (.fz (.lst none [nT a, nT b, nT c])), some (.fz (.int 7)), some (.ol [.int 6, .int 2, .int 4]), some (.fz (.int 11)), some (.fz (.int 6)), some (.fz (.int 6)), some (.fz (.lst none [.int 2])), none, none]) rfl [some (.fz (.int 3)), some (.fz (.lst none [nT a, nT b, nT c])), some (.fz (.int 7)), some (.ol [.int 6, .int 2, .int 4]), some (.fz (.int 11)), some (.fz (.int 6)), some (.fz (.int 6)), some (.fz (.lst none [.int 2])), none, none] (by simp [q8])).trans ?_
    refine (turns_c (e1 := [some (.fz (.int 3)), some (.fz (.lst none [nT a, nT b, nT c])), some (.fz (.int 7)), some (.ol [.int 6, .int 2, .int 4]), some (.fz (.int 11)), some (.fz (.int 6)), some (.fz (.int 6)), some (.fz (.tup [.int 2])), none, none]) rfl [some (.fz (.int 3)), some (.fz (.lst none [nT a, nT b, nT c])), some (.fz (.int 7)), some (.ol [.int 6, .int 2, .int 4]), some (.fz (.int 11)), some (.fz (.int 6)), some (.fz (.int 6)), some (.fz (.tup [.int 2])), none, none] (by simp [q9])).trans ?_
    rfl) ?_
  refine sat_step (e1 := [some (.fz (.int 3)), some (.fz (.lst none [nT a, nT b, nT c])), some (.fz (.int 7)), some (.ol [.int 6, .int 2, .int 4]), some (.fz (.int 11)), some (.fz (.int 6)), some (.fz (.int 6)), some (.fz (.tup [.int 2])), some (.fz (.lst none [.int 2, .int 4, .int 6])), none]) (by
    simp [as1]) ?_
  have eL := pl_lst (ts := [.int 2, .int 4, .int 6]) (g := none) (g' := none) (n := 0) (fun t ht => by obtain ⟨i, _, rfl⟩ := List.mem_map.mp (show t ∈ ([2, 4, 6] : List Int).map T.int from ht); exact .int i) (by omega)
  refine sat_step (e1 := [some (.fz (.int 3)), some (.fz (.lst none [nT a, nT b, nT c])), some (.fz (.int 7)), some (.ol [.int 6, .int 2, .int 4]), some (.fz (.int 11)), some (.fz (.int 6)), some (.fz (.int 6)), some (.fz (.tup [.int 2])), some (.fz (.lst none [.int 2, .int 4, .int 6])), none]) (by
    have lc : P.lc [9] (S.tName 9) (P.rng2 (P.cons (P.c (.int 1)) (P.cons (P.bin T.shl (P.c (.int 1)) (P.bin T.sub (P.var d 0) (P.c (.int 1)))) P.nil))) P.yes (P.bin T.mul (P.c (.int 2)) (P.var d 9)) [some (.fz (.int 3)), some (.fz (.lst none [nT a, nT b, nT c])), some (.fz (.int 7)), some (.ol [.int 6, .int 2, .int 4]), some (.fz (.int 11)), some (.fz (.int 6)), some (.fz (.int 6)), some (.fz (.tup [.int 2])), some (.fz (.lst none [.int 2, .int 4, .int 6])), none] = .ok (.lst none [.int 2, .int 4, .int 6]) := by kernel_rfl
    simp [-ev_lc, lc, so1, eL.2]) ?_
  refine sat_seqI (fun e => ∃ o4, e = [some (.fz (.int 3)), some (.fz (.lst none [nT a, nT b, nT c])), some (.fz (.int 7)), some (.ol [.int 6, .int 2, .int 4]), o4, some (.fz (.int 6)), some (.fz (.int 6)), some (.fz (.tup [.int 2])), some (.fz (.lst none [.int 2, .int 4, .int 6])), none]) ?_ ?_
  · have hl := loop3 d [2, 4, 6] (.int 3) (.lst none [nT a, nT b, nT c]) (.int 7) [.int 6, .int 2, .int 4] (some (.fz (.int 11))) (some (.fz (.int 6))) (some (.fz (.int 6))) (some (.fz (.tup [.int 2])))
    simp
    exact hl
  rintro e ⟨o4, rfl⟩
  simp [as1, eL.1]
theorem lp_4 (d : Nat) (far : T) : lp d [some (.fz (.int 4)), some (.fz far), some (.fz (.int 15)), some (.ol []), none, none, none, none, none, none] = .nx [some (.fz (.int 4)), some (.fz far), some (.fz (.int 15)), some (.ol [.int 14, .int 2, .int 12, .int 4, .int 10, .int 6, .int 8]), some (.fz (.int 19)), some (.fz (.int 14)), some (.fz (.int 14)), none, none, none] := by
  kernel_rfl
theorem as_4 (d : Nat) : f_all_sides d [.int 4] = .ok [.int 2, .int 4, .int 6, .int 8, .int 10, .int 12, .int 14] := by
  kernel_rfl
theorem so_4 (g : Option Tag) : B.sorted [.lst g [.int 14, .int 2, .int 12, .int 4, .int 10, .int 6, .int 8]] = some (.lst none [.int 2, .int 4, .int 6, .int 8, .int 10, .int 12, .int 14]) := by
  refine (sorted_nats [14, 2, 12, 4, 10, 6, 8] g).trans ?_
  rw [← srt_unique (l := [14, 2, 12, 4, 10, 6, 8]) (m := [2, 4, 6, 8, 10, 12, 14]) (by decide) (by decide)]
  rfl
theorem hold_4 (d a b c : Nat) : f__law_holds d [.int 4, .lst none [nT a, nT b, nT c]] = .ok (.bl true) := by
  have r1 : ∀ t, Bad 4 t → f__law_refused (d + 1) [.int 4, t] = .ok (.bl true) := fun t h => refused_ev (by omega) (by omega) h
  have q1 := r1 _ (.hi (i := 19 + (a : Int)) (by show (15 : Int) ≤ _; omega))
  have q2 := r1 _ (.lo (i := -4 - (b : Int)) (by omega))
  have q3 := r1 _ (.hi (i := 30 + (c : Int)) (by show (15 : Int) ≤ _; omega))
  have q4 := r1 _ (.bl true)
  have q5 := r1 _ (.bl false)
  have q6 := r1 _ .non
  have q7 := r1 _ (.str)
  have q8 := r1 _ .l2
  have q9 := r1 _ .t2
  have w1 : ∀ i : Int, f__law_whole (d + 1) [.int i] = .ok (.bl true) := fun i => by kernel_rfl
  have as1 := as_4 (d + 1)
  have so1 := so_4 (some (d, 3))
  refine run_is ?_
  unfold S__law_holds
  refine sat_step (e1 := [some (.fz (.int 4)), some (.fz (.lst none [nT a, nT b, nT c])), some (.fz (.int 15)), none, none, none, none, none, none, none]) (by kernel_rfl) ?_
  refine sat_step (e1 := [some (.fz (.int 4)), some (.fz (.lst none [nT a, nT b, nT c])), some (.fz (.int 15)), some (.ol []), none, none, none, none, none, none]) (by kernel_rfl) ?_
  refine sat_step (lp_4 d (.lst none [nT a, nT b, nT c])) ?_
  refine sat_step (e1 := [some (.fz (.int 4)), some (.fz (.lst none [nT a, nT b, nT c])), some (.fz (.int 15)), some (.ol [.int 14, .int 2, .int 12, .int 4, .int 10, .int 6, .int 8]), some (.fz (.int 19)), some (.fz (.int 14)), some (.fz (.int 14)), some (.fz (.tup [.int 2])), none, none]) (by
    have m1 : T.mul (.int 2) (.int 15) = some (.int 30) := by kernel_rfl
    simp [m1]
    refine (turns_c (e1 := [some (.fz (.int 4)), some (.fz (.lst none [nT a, nT b, nT c])), some (.fz (.int 15)), some (.ol [.int 14, .int 2, .int 12, .int 4, .int 10, .int 6, .int 8]), some (.fz (.int 19)), some (.fz (.int 14)), some (.fz (.int 14)), some (.fz (.int (19 + (a : Int)))), none, none]) rfl [some (.fz (.int 4)), some (.fz (.lst none [nT a, nT b, nT c])), some (.fz (.int 15)), some (.ol [.int 14, .int 2, .int 12, .int 4, .int 10, .int 6, .int 8]), some (.fz (.int 19)), some (.fz (.int 14)), some (.fz (.int 14)), some (.fz (.int (19 + (a : Int)))), none, none] (by simp [q1])).trans ?_
    refine (turns_c (e1 := [some (.fz (.int 4)), some (.fz (.lst none [nT a, nT b, nT c])), some (.fz (.int 15)), some (.ol [.int 14, .int 2, .int 12, .int 4, .int 10, .int 6, .int 8]), some (.fz (.int 19)), some (.fz (.int 14)), some (.fz (.int 14)), some (.fz (.int (-4 - (b : Int)))), none, none]) rfl [some (.fz (.int 4)), some (.fz (.lst none [nT a, nT b, nT c])), some (.fz (.int 15)), some (.ol [.int 14, .int 2, .int 12, .int 4, .int 10, .int 6, .int 8]), some (.fz (.int 19)), some (.fz (.int 14)), some (.fz (.int 14)), some (.fz (.int (-4 - (b : Int)))), none, none] (by simp [q2])).trans ?_
    refine (turns_c (e1 := [some (.fz (.int 4)), some (.fz (.lst none [nT a, nT b, nT c])), some (.fz (.int 15)), some (.ol [.int 14, .int 2, .int 12, .int 4, .int 10, .int 6, .int 8]), some (.fz (.int 19)), some (.fz (.int 14)), some (.fz (.int 14)), some (.fz (.int (30 + (c : Int)))), none, none]) rfl [some (.fz (.int 4)), some (.fz (.lst none [nT a, nT b, nT c])), some (.fz (.int 15)), some (.ol [.int 14, .int 2, .int 12, .int 4, .int 10, .int 6, .int 8]), some (.fz (.int 19)), some (.fz (.int 14)), some (.fz (.int 14)), some (.fz (.int (30 + (c : Int)))), none, none] (by simp [q3])).trans ?_
    refine (turns_c (e1 := [some (.fz (.int 4)), some (.fz (.lst none [nT a, nT b, nT c])), some (.fz (.int 15)), some (.ol [.int 14, .int 2, .int 12, .int 4, .int 10, .int 6, .int 8]), some (.fz (.int 19)), some (.fz (.int 14)), some (.fz (.int 14)), some (.fz (.bl true)), none, none]) rfl [some (.fz (.int 4)), some (.fz (.lst none [nT a, nT b, nT c])), some (.fz (.int 15)), some (.ol [.int 14, .int 2, .int 12, .int 4, .int 10, .int 6, .int 8]), some (.fz (.int 19)), some (.fz (.int 14)), some (.fz (.int 14)), some (.fz (.bl true)), none, none] (by simp [q4])).trans ?_
    refine (turns_c (e1 := [some (.fz (.int 4)), some (.fz (.lst none [nT a, nT b, nT c])), some (.fz (.int 15)), some (.ol [.int 14, .int 2, .int 12, .int 4, .int 10, .int 6, .int 8]), some (.fz (.int 19)), some (.fz (.int 14)), some (.fz (.int 14)), some (.fz (.bl false)), none, none]) rfl [some (.fz (.int 4)), some (.fz (.lst none [nT a, nT b, nT c])), some (.fz (.int 15)), some (.ol [.int 14, .int 2, .int 12, .int 4, .int 10, .int 6, .int 8]), some (.fz (.int 19)), some (.fz (.int 14)), some (.fz (.int 14)), some (.fz (.bl false)), none, none] (by simp [q5])).trans ?_
    refine (turns_c (e1 := [some (.fz (.int 4)), some (.fz (.lst none [nT a, nT b, nT c])), some (.fz (.int 15)), some (.ol [.int 14, .int 2, .int 12, .int 4, .int 10, .int 6, .int 8]), some (.fz (.int 19)), some (.fz (.int 14)), some (.fz (.int 14)), some (.fz (.non)), none, none]) rfl [some (.fz (.int 4)), some (.fz (.lst none [nT a, nT b, nT c])), some (.fz (.int 15)), some (.ol [.int 14, .int 2, .int 12, .int 4, .int 10, .int 6, .int 8]), some (.fz (.int 19)), some (.fz (.int 14)), some (.fz (.int 14)), some (.fz (.non)), none, none] (by simp [q6])).trans ?_
    refine (turns_c (e1 := [some (.fz (.int 4)), some (.fz (.lst none [nT a, nT b, nT c])), some (.fz (.int 15)), some (.ol [.int 14, .int 2, .int 12, .int 4, .int 10, .int 6, .int 8]), some (.fz (.int 19)), some (.fz (.int 14)), some (.fz (.int 14)), some (.fz (.str "2")), none, none]) rfl [some (.fz (.int 4)), some (.fz (.lst none [nT a, nT b, nT c])), some (.fz (.int 15)), some (.ol [.int 14, .int 2, .int 12, .int 4, .int 10, .int 6, .int 8]), some (.fz (.int 19)), some (.fz (.int 14)), some (.fz (.int 14)), some (.fz (.str "2")), none, none] (by simp [q7])).trans ?_
    refine (turns_c (e1 := [some (.fz (.int 4)), some (.fz (.lst none [nT a, nT b, nT c])), some (.fz (.int 15)), some (.ol [.int 14, .int 2, .int 12, .int 4, .int 10, .int 6, .int 8]), some (.fz (.int 19)), some (.fz (.int 14)), some (.fz (.int 14)), some (.fz (.lst none [.int 2])), none, none]) rfl [some (.fz (.int 4)), some (.fz (.lst none [nT a, nT b, nT c])), some (.fz (.int 15)), some (.ol [.int 14, .int 2, .int 12, .int 4, .int 10, .int 6, .int 8]), some (.fz (.int 19)), some (.fz (.int 14)), some (.fz (.int 14)), some (.fz (.lst none [.int 2])), none, none] (by simp [q8])).trans ?_
    refine (turns_c (e1 := [some (.fz (.int 4)), some (.fz (.lst none [nT a, nT b, nT c])), some (.fz (.int 15)), some (.ol [.int 14, .int 2, .int 12, .int 4, .int 10, .int 6, .int 8]), some (.fz (.int 19)), some (.fz (.int 14)), some (.fz (.int 14)), some (.fz (.tup [.int 2])), none, none]) rfl [some (.fz (.int 4)), some (.fz (.lst none [nT a, nT b, nT c])), some (.fz (.int 15)), some (.ol [.int 14, .int 2, .int 12, .int 4, .int 10, .int 6, .int 8]), some (.fz (.int 19)), some (.fz (.int 14)), some (.fz (.int 14)), some (.fz (.tup [.int 2])), none, none] (by simp [q9])).trans ?_
    rfl) ?_
  refine sat_step (e1 := [some (.fz (.int 4)), some (.fz (.lst none [nT a, nT b, nT c])), some (.fz (.int 15)), some (.ol [.int 14, .int 2, .int 12, .int 4, .int 10, .int 6, .int 8]), some (.fz (.int 19)), some (.fz (.int 14)), some (.fz (.int 14)), some (.fz (.tup [.int 2])), some (.fz (.lst none [.int 2, .int 4, .int 6, .int 8, .int 10, .int 12, .int 14])), none]) (by
    simp [as1]) ?_
  have eL := pl_lst (ts := [.int 2, .int 4, .int 6, .int 8, .int 10, .int 12, .int 14]) (g := none) (g' := none) (n := 0) (fun t ht => by obtain ⟨i, _, rfl⟩ := List.mem_map.mp (show t ∈ ([2, 4, 6, 8, 10, 12, 14] : List Int).map T.int from ht); exact .int i) (by omega)
  refine sat_step (e1 := [some (.fz (.int 4)), some (.fz (.lst none [nT a, nT b, nT c])), some (.fz (.int 15)), some (.ol [.int 14, .int 2, .int 12, .int 4, .int 10, .int 6, .int 8]), some (.fz (.int 19)), some (.fz (.int 14)), some (.fz (.int 14)), some (.fz (.tup [.int 2])), some (.fz (.lst none [.int 2, .int 4, .int 6, .int 8, .int 10, .int 12, .int 14])), none]) (by
    have lc : P.lc [9] (S.tName 9) (P.rng2 (P.cons (P.c (.int 1)) (P.cons (P.bin T.shl (P.c (.int 1)) (P.bin T.sub (P.var d 0) (P.c (.int 1)))) P.nil))) P.yes (P.bin T.mul (P.c (.int 2)) (P.var d 9)) [some (.fz (.int 4)), some (.fz (.lst none [nT a, nT b, nT c])), some (.fz (.int 15)), some (.ol [.int 14, .int 2, .int 12, .int 4, .int 10, .int 6, .int 8]), some (.fz (.int 19)), some (.fz (.int 14)), some (.fz (.int 14)), some (.fz (.tup [.int 2])), some (.fz (.lst none [.int 2, .int 4, .int 6, .int 8, .int 10, .int 12, .int 14])), none] = .ok (.lst none [.int 2, .int 4, .int 6, .int 8, .int 10, .int 12, .int 14]) := by kernel_rfl
    simp [-ev_lc, lc, so1, eL.2]) ?_
  refine sat_seqI (fun e => ∃ o4, e = [some (.fz (.int 4)), some (.fz (.lst none [nT a, nT b, nT c])), some (.fz (.int 15)), some (.ol [.int 14, .int 2, .int 12, .int 4, .int 10, .int 6, .int 8]), o4, some (.fz (.int 14)), some (.fz (.int 14)), some (.fz (.tup [.int 2])), some (.fz (.lst none [.int 2, .int 4, .int 6, .int 8, .int 10, .int 12, .int 14])), none]) ?_ ?_
  · have hl := loop3 d [2, 4, 6, 8, 10, 12, 14] (.int 4) (.lst none [nT a, nT b, nT c]) (.int 15) [.int 14, .int 2, .int 12, .int 4, .int 10, .int 6, .int 8] (some (.fz (.int 19))) (some (.fz (.int 14))) (some (.fz (.int 14))) (some (.fz (.tup [.int 2])))
    simp
    exact hl
  rintro e ⟨o4, rfl⟩
  simp [as1, eL.1]
theorem lp_5 (d : Nat) (far : T) : lp d [some (.fz (.int 5)), some (.fz far), some (.fz (.int 31)), some (.ol []), none, none, none, none, none, none] = .nx [some (.fz (.int 5)), some (.fz far), some (.fz (.int 31)), some (.ol [.int 30, .int 2, .int 28, .int 4, .int 26, .int 6, .int 24, .int 8, .int 22, .int 10, .int 20, .int 12, .int 18, .int 14, .int 16]), some (.fz (.int 35)), some (.fz (.int 30)), some (.fz (.int 30)), none, none, none] := by
  kernel_rfl
theorem as_5 (d : Nat) : f_all_sides d [.int 5] = .ok [.int 2, .int 4, .int 6, .int 8, .int 10, .int 12, .int 14, .int 16, .int 18, .int 20, .int 22, .int 24, .int 26, .int 28, .int 30] := by
  kernel_rfl
theorem so_5 (g : Option Tag) : B.sorted [.lst g [.int 30, .int 2, .int 28, .int 4, .int 26, .int 6, .int 24, .int 8, .int 22, .int 10, .int 20, .int 12, .int 18, .int 14, .int 16]] = some (.lst none [.int 2, .int 4, .int 6, .int 8, .int 10, .int 12, .int 14, .int 16, .int 18, .int 20, .int 22, .int 24, .int 26, .int 28, .int 30]) := by
  refine (sorted_nats [30, 2, 28, 4, 26, 6, 24, 8, 22, 10, 20, 12, 18, 14, 16] g).trans ?_
  rw [← srt_unique (l := [30, 2, 28, 4, 26, 6, 24, 8, 22, 10, 20, 12, 18, 14, 16]) (m := [2, 4, 6, 8, 10, 12, 14, 16, 18, 20, 22, 24, 26, 28, 30]) (by decide) (by decide)]
  rfl
theorem hold_5 (d a b c : Nat) : f__law_holds d [.int 5, .lst none [nT a, nT b, nT c]] = .ok (.bl true) := by
  have r1 : ∀ t, Bad 5 t → f__law_refused (d + 1) [.int 5, t] = .ok (.bl true) := fun t h => refused_ev (by omega) (by omega) h
  have q1 := r1 _ (.hi (i := 35 + (a : Int)) (by show (31 : Int) ≤ _; omega))
  have q2 := r1 _ (.lo (i := -4 - (b : Int)) (by omega))
  have q3 := r1 _ (.hi (i := 62 + (c : Int)) (by show (31 : Int) ≤ _; omega))
  have q4 := r1 _ (.bl true)
  have q5 := r1 _ (.bl false)
  have q6 := r1 _ .non
  have q7 := r1 _ (.str)
  have q8 := r1 _ .l2
  have q9 := r1 _ .t2
  have w1 : ∀ i : Int, f__law_whole (d + 1) [.int i] = .ok (.bl true) := fun i => by kernel_rfl
  have as1 := as_5 (d + 1)
  have so1 := so_5 (some (d, 3))
  refine run_is ?_
  unfold S__law_holds
  refine sat_step (e1 := [some (.fz (.int 5)), some (.fz (.lst none [nT a, nT b, nT c])), some (.fz (.int 31)), none, none, none, none, none, none, none]) (by kernel_rfl) ?_
  refine sat_step (e1 := [some (.fz (.int 5)), some (.fz (.lst none [nT a, nT b, nT c])), some (.fz (.int 31)), some (.ol []), none, none, none, none, none, none]) (by kernel_rfl) ?_
  refine sat_step (lp_5 d (.lst none [nT a, nT b, nT c])) ?_
  refine sat_step (e1 := [some (.fz (.int 5)), some (.fz (.lst none [nT a, nT b, nT c])), some (.fz (.int 31)), some (.ol [.int 30, .int 2, .int 28, .int 4, .int 26, .int 6, .int 24, .int 8, .int 22, .int 10, .int 20, .int 12, .int 18, .int 14, .int 16]), some (.fz (.int 35)), some (.fz (.int 30)), some (.fz (.int 30)), some (.fz (.tup [.int 2])), none, none]) (by
    have m1 : T.mul (.int 2) (.int 31) = some (.int 62) := by kernel_rfl
    simp [m1]
    refine (turns_c (e1 := [some (.fz (.int 5)), some (.fz (.lst none [nT a, nT b, nT c])), some (.fz (.int 31)), some (.ol [.int 30, .int 2, .int 28, .int 4, .int 26, .int 6, .int 24, .int 8, .int 22, .int 10, .int 20, .int 12, .int 18, .int 14, .int 16]), some (.fz (.int 35)), some (.fz (.int 30)), some (.fz (.int 30)), some (.fz (.int (35 + (a : Int)))), none, none]) rfl [some (.fz (.int 5)), some (.fz (.lst none [nT a, nT b, nT c])), some (.fz (.int 31)), some (.ol [.int 30, .int 2, .int 28, .int 4, .int 26, .int 6, .int 24, .int 8, .int 22, .int 10, .int 20, .int 12, .int 18, .int 14, .int 16]), some (.fz (.int 35)), some (.fz (.int 30)), some (.fz (.int 30)), some (.fz (.int (35 + (a : Int)))), none, none] (by simp [q1])).trans ?_
    refine (turns_c (e1 := [some (.fz (.int 5)), some (.fz (.lst none [nT a, nT b, nT c])), some (.fz (.int 31)), some (.ol [.int 30, .int 2, .int 28, .int 4, .int 26, .int 6, .int 24, .int 8, .int 22, .int 10, .int 20, .int 12, .int 18, .int 14, .int 16]), some (.fz (.int 35)), some (.fz (.int 30)), some (.fz (.int 30)), some (.fz (.int (-4 - (b : Int)))), none, none]) rfl [some (.fz (.int 5)), some (.fz (.lst none [nT a, nT b, nT c])), some (.fz (.int 31)), some (.ol [.int 30, .int 2, .int 28, .int 4, .int 26, .int 6, .int 24, .int 8, .int 22, .int 10, .int 20, .int 12, .int 18, .int 14, .int 16]), some (.fz (.int 35)), some (.fz (.int 30)), some (.fz (.int 30)), some (.fz (.int (-4 - (b : Int)))), none, none] (by simp [q2])).trans ?_
    refine (turns_c (e1 := [some (.fz (.int 5)), some (.fz (.lst none [nT a, nT b, nT c])), some (.fz (.int 31)), some (.ol [.int 30, .int 2, .int 28, .int 4, .int 26, .int 6, .int 24, .int 8, .int 22, .int 10, .int 20, .int 12, .int 18, .int 14, .int 16]), some (.fz (.int 35)), some (.fz (.int 30)), some (.fz (.int 30)), some (.fz (.int (62 + (c : Int)))), none, none]) rfl [some (.fz (.int 5)), some (.fz (.lst none [nT a, nT b, nT c])), some (.fz (.int 31)), some (.ol [.int 30, .int 2, .int 28, .int 4, .int 26, .int 6, .int 24, .int 8, .int 22, .int 10, .int 20, .int 12, .int 18, .int 14, .int 16]), some (.fz (.int 35)), some (.fz (.int 30)), some (.fz (.int 30)), some (.fz (.int (62 + (c : Int)))), none, none] (by simp [q3])).trans ?_
    refine (turns_c (e1 := [some (.fz (.int 5)), some (.fz (.lst none [nT a, nT b, nT c])), some (.fz (.int 31)), some (.ol [.int 30, .int 2, .int 28, .int 4, .int 26, .int 6, .int 24, .int 8, .int 22, .int 10, .int 20, .int 12, .int 18, .int 14, .int 16]), some (.fz (.int 35)), some (.fz (.int 30)), some (.fz (.int 30)), some (.fz (.bl true)), none, none]) rfl [some (.fz (.int 5)), some (.fz (.lst none [nT a, nT b, nT c])), some (.fz (.int 31)), some (.ol [.int 30, .int 2, .int 28, .int 4, .int 26, .int 6, .int 24, .int 8, .int 22, .int 10, .int 20, .int 12, .int 18, .int 14, .int 16]), some (.fz (.int 35)), some (.fz (.int 30)), some (.fz (.int 30)), some (.fz (.bl true)), none, none] (by simp [q4])).trans ?_
    refine (turns_c (e1 := [some (.fz (.int 5)), some (.fz (.lst none [nT a, nT b, nT c])), some (.fz (.int 31)), some (.ol [.int 30, .int 2, .int 28, .int 4, .int 26, .int 6, .int 24, .int 8, .int 22, .int 10, .int 20, .int 12, .int 18, .int 14, .int 16]), some (.fz (.int 35)), some (.fz (.int 30)), some (.fz (.int 30)), some (.fz (.bl false)), none, none]) rfl [some (.fz (.int 5)), some (.fz (.lst none [nT a, nT b, nT c])), some (.fz (.int 31)), some (.ol [.int 30, .int 2, .int 28, .int 4, .int 26, .int 6, .int 24, .int 8, .int 22, .int 10, .int 20, .int 12, .int 18, .int 14, .int 16]), some (.fz (.int 35)), some (.fz (.int 30)), some (.fz (.int 30)), some (.fz (.bl false)), none, none] (by simp [q5])).trans ?_
    refine (turns_c (e1 := [some (.fz (.int 5)), some (.fz (.lst none [nT a, nT b, nT c])), some (.fz (.int 31)), some (.ol [.int 30, .int 2, .int 28, .int 4, .int 26, .int 6, .int 24, .int 8, .int 22, .int 10, .int 20, .int 12, .int 18, .int 14, .int 16]), some (.fz (.int 35)), some (.fz (.int 30)), some (.fz (.int 30)), some (.fz (.non)), none, none]) rfl [some (.fz (.int 5)), some (.fz (.lst none [nT a, nT b, nT c])), some (.fz (.int 31)), some (.ol [.int 30, .int 2, .int 28, .int 4, .int 26, .int 6, .int 24, .int 8, .int 22, .int 10, .int 20, .int 12, .int 18, .int 14, .int 16]), some (.fz (.int 35)), some (.fz (.int 30)), some (.fz (.int 30)), some (.fz (.non)), none, none] (by simp [q6])).trans ?_
    refine (turns_c (e1 := [some (.fz (.int 5)), some (.fz (.lst none [nT a, nT b, nT c])), some (.fz (.int 31)), some (.ol [.int 30, .int 2, .int 28, .int 4, .int 26, .int 6, .int 24, .int 8, .int 22, .int 10, .int 20, .int 12, .int 18, .int 14, .int 16]), some (.fz (.int 35)), some (.fz (.int 30)), some (.fz (.int 30)), some (.fz (.str "2")), none, none]) rfl [some (.fz (.int 5)), some (.fz (.lst none [nT a, nT b, nT c])), some (.fz (.int 31)), some (.ol [.int 30, .int 2, .int 28, .int 4, .int 26, .int 6, .int 24, .int 8, .int 22, .int 10, .int 20, .int 12, .int 18, .int 14, .int 16]), some (.fz (.int 35)), some (.fz (.int 30)), some (.fz (.int 30)), some (.fz (.str "2")), none, none] (by simp [q7])).trans ?_
    refine (turns_c (e1 := [some (.fz (.int 5)), some (.fz (.lst none [nT a, nT b, nT c])), some (.fz (.int 31)), some (.ol [.int 30, .int 2, .int 28, .int 4, .int 26, .int 6, .int 24, .int 8, .int 22, .int 10, .int 20, .int 12, .int 18, .int 14, .int 16]), some (.fz (.int 35)), some (.fz (.int 30)), some (.fz (.int 30)), some (.fz (.lst none [.int 2])), none, none]) rfl [some (.fz (.int 5)), some (.fz (.lst none [nT a, nT b, nT c])), some (.fz (.int 31)), some (.ol [.int 30, .int 2, .int 28, .int 4, .int 26, .int 6, .int 24, .int 8, .int 22, .int 10, .int 20, .int 12, .int 18, .int 14, .int 16]), some (.fz (.int 35)), some (.fz (.int 30)), some (.fz (.int 30)), some (.fz (.lst none [.int 2])), none, none] (by simp [q8])).trans ?_
    refine (turns_c (e1 := [some (.fz (.int 5)), some (.fz (.lst none [nT a, nT b, nT c])), some (.fz (.int 31)), some (.ol [.int 30, .int 2, .int 28, .int 4, .int 26, .int 6, .int 24, .int 8, .int 22, .int 10, .int 20, .int 12, .int 18, .int 14, .int 16]), some (.fz (.int 35)), some (.fz (.int 30)), some (.fz (.int 30)), some (.fz (.tup [.int 2])), none, none]) rfl [some (.fz (.int 5)), some (.fz (.lst none [nT a, nT b, nT c])), some (.fz (.int 31)), some (.ol [.int 30, .int 2, .int 28, .int 4, .int 26, .int 6, .int 24, .int 8, .int 22, .int 10, .int 20, .int 12, .int 18, .int 14, .int 16]), some (.fz (.int 35)), some (.fz (.int 30)), some (.fz (.int 30)), some (.fz (.tup [.int 2])), none, none] (by simp [q9])).trans ?_
    rfl) ?_
  refine sat_step (e1 := [some (.fz (.int 5)), some (.fz (.lst none [nT a, nT b, nT c])), some (.fz (.int 31)), some (.ol [.int 30, .int 2, .int 28, .int 4, .int 26, .int 6, .int 24, .int 8, .int 22, .int 10, .int 20, .int 12, .int 18, .int 14, .int 16]), some (.fz (.int 35)), some (.fz (.int 30)), some (.fz (.int 30)), some (.fz (.tup [.int 2])), some (.fz (.lst none [.int 2, .int 4, .int 6, .int 8, .int 10, .int 12, .int 14, .int 16, .int 18, .int 20, .int 22, .int 24, .int 26, .int 28, .int 30])), none]) (by
    simp [as1]) ?_
  have eL := pl_lst (ts := [.int 2, .int 4, .int 6, .int 8, .int 10, .int 12, .int 14, .int 16, .int 18, .int 20, .int 22, .int 24, .int 26, .int 28, .int 30]) (g := none) (g' := none) (n := 0) (fun t ht => by obtain ⟨i, _, rfl⟩ := List.mem_map.mp (show t ∈ ([2, 4, 6, 8, 10, 12, 14, 16, 18, 20, 22, 24, 26, 28, 30] : List Int).map T.int from ht); exact .int i) (by omega)
  refine sat_step (e1 := [some (.fz (.int 5)), some (.fz (.lst none [nT a, nT b, nT c])), some (.fz (.int 31)), some (.ol [.int 30, .int 2, .int 28, .int 4, .int 26, .int 6, .int 24, .int 8, .int 22, .int 10, .int 20, .int 12, .int 18, .int 14, .int 16]), some (.fz (.int 35)), some (.fz (.int 30)), some (.fz (.int 30)), some (.fz (.tup [.int 2])), some (.fz (.lst none [.int 2, .int 4, .int 6, .int 8, .int 10, .int 12, .int 14, .int 16, .int 18, .int 20, .int 22, .int 24, .int 26, .int 28, .int 30])), none]) (by
    have lc : P.lc [9] (S.tName 9) (P.rng2 (P.cons (P.c (.int 1)) (P.cons (P.bin T.shl (P.c (.int 1)) (P.bin T.sub (P.var d 0) (P.c (.int 1)))) P.nil))) P.yes (P.bin T.mul (P.c (.int 2)) (P.var d 9)) [some (.fz (.int 5)), some (.fz (.lst none [nT a, nT b, nT c])), some (.fz (.int 31)), some (.ol [.int 30, .int 2, .int 28, .int 4, .int 26, .int 6, .int 24, .int 8, .int 22, .int 10, .int 20, .int 12, .int 18, .int 14, .int 16]), some (.fz (.int 35)), some (.fz (.int 30)), some (.fz (.int 30)), some (.fz (.tup [.int 2])), some (.fz (.lst none [.int 2, .int 4, .int 6, .int 8, .int 10, .int 12, .int 14, .int 16, .int 18, .int 20, .int 22, .int 24, .int 26, .int 28, .int 30])), none] = .ok (.lst none [.int 2, .int 4, .int 6, .int 8, .int 10, .int 12, .int 14, .int 16, .int 18, .int 20, .int 22, .int 24, .int 26, .int 28, .int 30]) := by kernel_rfl
    simp [-ev_lc, lc, so1, eL.2]) ?_
  refine sat_seqI (fun e => ∃ o4, e = [some (.fz (.int 5)), some (.fz (.lst none [nT a, nT b, nT c])), some (.fz (.int 31)), some (.ol [.int 30, .int 2, .int 28, .int 4, .int 26, .int 6, .int 24, .int 8, .int 22, .int 10, .int 20, .int 12, .int 18, .int 14, .int 16]), o4, some (.fz (.int 30)), some (.fz (.int 30)), some (.fz (.tup [.int 2])), some (.fz (.lst none [.int 2, .int 4, .int 6, .int 8, .int 10, .int 12, .int 14, .int 16, .int 18, .int 20, .int 22, .int 24, .int 26, .int 28, .int 30])), none]) ?_ ?_
  · have hl := loop3 d [2, 4, 6, 8, 10, 12, 14, 16, 18, 20, 22, 24, 26, 28, 30] (.int 5) (.lst none [nT a, nT b, nT c]) (.int 31) [.int 30, .int 2, .int 28, .int 4, .int 26, .int 6, .int 24, .int 8, .int 22, .int 10, .int 20, .int 12, .int 18, .int 14, .int 16] (some (.fz (.int 35))) (some (.fz (.int 30))) (some (.fz (.int 30))) (some (.fz (.tup [.int 2])))
    simp
    exact hl
  rintro e ⟨o4, rfl⟩
  simp [as1, eL.1]
theorem lp_6 (d : Nat) (far : T) : lp d [some (.fz (.int 6)), some (.fz far), some (.fz (.int 63)), some (.ol []), none, none, none, none, none, none] = .nx [some (.fz (.int 6)), some (.fz far), some (.fz (.int 63)), some (.ol [.int 62, .int 2, .int 60, .int 4, .int 58, .int 6, .int 56, .int 8, .int 54, .int 10, .int 52, .int 12, .int 50, .int 14, .int 48, .int 16, .int 46, .int 18, .int 44, .int 20, .int 42, .int 22, .int 40, .int 24, .int 38, .int 26, .int 36, .int 28, .int 34, .int 30, .int 32]), some (.fz (.int 67)), some (.fz (.int 62)), some (.fz (.int 62)), none, none, none] := by
  kernel_rfl
theorem as_6 (d : Nat) : f_all_sides d [.int 6] = .ok [.int 2, .int 4, .int 6, .int 8, .int 10, .int 12, .int 14, .int 16, .int 18, .int 20, .int 22, .int 24, .int 26, .int 28, .int 30, .int 32, .int 34, .int 36, .int 38, .int 40, .int 42, .int 44, .int 46, .int 48, .int 50, .int 52, .int 54, .int 56, .int 58, .int 60, .int 62] := by
  kernel_rfl
theorem so_6 (g : Option Tag) : B.sorted [.lst g [.int 62, .int 2, .int 60, .int 4, .int 58, .int 6, .int 56, .int 8, .int 54, .int 10, .int 52, .int 12, .int 50, .int 14, .int 48, .int 16, .int 46, .int 18, .int 44, .int 20, .int 42, .int 22, .int 40, .int 24, .int 38, .int 26, .int 36, .int 28, .int 34, .int 30, .int 32]] = some (.lst none [.int 2, .int 4, .int 6, .int 8, .int 10, .int 12, .int 14, .int 16, .int 18, .int 20, .int 22, .int 24, .int 26, .int 28, .int 30, .int 32, .int 34, .int 36, .int 38, .int 40, .int 42, .int 44, .int 46, .int 48, .int 50, .int 52, .int 54, .int 56, .int 58, .int 60, .int 62]) := by
  refine (sorted_nats [62, 2, 60, 4, 58, 6, 56, 8, 54, 10, 52, 12, 50, 14, 48, 16, 46, 18, 44, 20, 42, 22, 40, 24, 38, 26, 36, 28, 34, 30, 32] g).trans ?_
  rw [← srt_unique (l := [62, 2, 60, 4, 58, 6, 56, 8, 54, 10, 52, 12, 50, 14, 48, 16, 46, 18, 44, 20, 42, 22, 40, 24, 38, 26, 36, 28, 34, 30, 32]) (m := [2, 4, 6, 8, 10, 12, 14, 16, 18, 20, 22, 24, 26, 28, 30, 32, 34, 36, 38, 40, 42, 44, 46, 48, 50, 52, 54, 56, 58, 60, 62]) (by decide) (by decide)]
  rfl
theorem hold_6 (d a b c : Nat) : f__law_holds d [.int 6, .lst none [nT a, nT b, nT c]] = .ok (.bl true) := by
  have r1 : ∀ t, Bad 6 t → f__law_refused (d + 1) [.int 6, t] = .ok (.bl true) := fun t h => refused_ev (by omega) (by omega) h
  have q1 := r1 _ (.hi (i := 67 + (a : Int)) (by show (63 : Int) ≤ _; omega))
  have q2 := r1 _ (.lo (i := -4 - (b : Int)) (by omega))
  have q3 := r1 _ (.hi (i := 126 + (c : Int)) (by show (63 : Int) ≤ _; omega))
  have q4 := r1 _ (.bl true)
  have q5 := r1 _ (.bl false)
  have q6 := r1 _ .non
  have q7 := r1 _ (.str)
  have q8 := r1 _ .l2
  have q9 := r1 _ .t2
  have w1 : ∀ i : Int, f__law_whole (d + 1) [.int i] = .ok (.bl true) := fun i => by kernel_rfl
  have as1 := as_6 (d + 1)
  have so1 := so_6 (some (d, 3))
  refine run_is ?_
  unfold S__law_holds
  refine sat_step (e1 := [some (.fz (.int 6)), some (.fz (.lst none [nT a, nT b, nT c])), some (.fz (.int 63)), none, none, none, none, none, none, none]) (by kernel_rfl) ?_
  refine sat_step (e1 := [some (.fz (.int 6)), some (.fz (.lst none [nT a, nT b, nT c])), some (.fz (.int 63)), some (.ol []), none, none, none, none, none, none]) (by kernel_rfl) ?_
  refine sat_step (lp_6 d (.lst none [nT a, nT b, nT c])) ?_
  refine sat_step (e1 := [some (.fz (.int 6)), some (.fz (.lst none [nT a, nT b, nT c])), some (.fz (.int 63)), some (.ol [.int 62, .int 2, .int 60, .int 4, .int 58, .int 6, .int 56, .int 8, .int 54, .int 10, .int 52, .int 12, .int 50, .int 14, .int 48, .int 16, .int 46, .int 18, .int 44, .int 20, .int 42, .int 22, .int 40, .int 24, .int 38, .int 26, .int 36, .int 28, .int 34, .int 30, .int 32]), some (.fz (.int 67)), some (.fz (.int 62)), some (.fz (.int 62)), some (.fz (.tup [.int 2])), none, none]) (by
    have m1 : T.mul (.int 2) (.int 63) = some (.int 126) := by kernel_rfl
    simp [m1]
    refine (turns_c (e1 := [some (.fz (.int 6)), some (.fz (.lst none [nT a, nT b, nT c])), some (.fz (.int 63)), some (.ol [.int 62, .int 2, .int 60, .int 4, .int 58, .int 6, .int 56, .int 8, .int 54, .int 10, .int 52, .int 12, .int 50, .int 14, .int 48, .int 16, .int 46, .int 18, .int 44, .int 20, .int 42, .int 22, .int 40, .int 24, .int 38, .int 26, .int 36, .int 28, .int 34, .int 30, .int 32]), some (.fz (.int 67)), some (.fz (.int 62)), some (.fz (.int 62)), some (.fz (.int (67 + (a : Int)))), none, none]) rfl [some (.fz (.int 6)), some (.fz (.lst none [nT a, nT b, nT c])), some (.fz (.int 63)), some (.ol [.int 62, .int 2, .int 60, .int 4, .int 58, .int 6, .int 56, .int 8, .int 54, .int 10, .int 52, .int 12, .int 50, .int 14, .int 48, .int 16, .int 46, .int 18, .int 44, .int 20, .int 42, .int 22, .int 40, .int 24, .int 38, .int 26, .int 36, .int 28, .int 34, .int 30, .int 32]), some (.fz (.int 67)), some (.fz (.int 62)), some (.fz (.int 62)), some (.fz (.int (67 + (a : Int)))), none, none] (by simp [q1])).trans ?_
    refine (turns_c (e1 := [some (.fz (.int 6)), some (.fz (.lst none [nT a, nT b, nT c])), some (.fz (.int 63)), some (.ol [.int 62, .int 2, .int 60, .int 4, .int 58, .int 6, .int 56, .int 8, .int 54, .int 10, .int 52, .int 12, .int 50, .int 14, .int 48, .int 16, .int 46, .int 18, .int 44, .int 20, .int 42, .int 22, .int 40, .int 24, .int 38, .int 26, .int 36, .int 28, .int 34, .int 30, .int 32]), some (.fz (.int 67)), some (.fz (.int 62)), some (.fz (.int 62)), some (.fz (.int (-4 - (b : Int)))), none, none]) rfl [some (.fz (.int 6)), some (.fz (.lst none [nT a, nT b, nT c])), some (.fz (.int 63)), some (.ol [.int 62, .int 2, .int 60, .int 4, .int 58, .int 6, .int 56, .int 8, .int 54, .int 10, .int 52, .int 12, .int 50, .int 14, .int 48, .int 16, .int 46, .int 18, .int 44, .int 20, .int 42, .int 22, .int 40, .int 24, .int 38, .int 26, .int 36, .int 28, .int 34, .int 30, .int 32]), some (.fz (.int 67)), some (.fz (.int 62)), some (.fz (.int 62)), some (.fz (.int (-4 - (b : Int)))), none, none] (by simp [q2])).trans ?_
    refine (turns_c (e1 := [some (.fz (.int 6)), some (.fz (.lst none [nT a, nT b, nT c])), some (.fz (.int 63)), some (.ol [.int 62, .int 2, .int 60, .int 4, .int 58, .int 6, .int 56, .int 8, .int 54, .int 10, .int 52, .int 12, .int 50, .int 14, .int 48, .int 16, .int 46, .int 18, .int 44, .int 20, .int 42, .int 22, .int 40, .int 24, .int 38, .int 26, .int 36, .int 28, .int 34, .int 30, .int 32]), some (.fz (.int 67)), some (.fz (.int 62)), some (.fz (.int 62)), some (.fz (.int (126 + (c : Int)))), none, none]) rfl [some (.fz (.int 6)), some (.fz (.lst none [nT a, nT b, nT c])), some (.fz (.int 63)), some (.ol [.int 62, .int 2, .int 60, .int 4, .int 58, .int 6, .int 56, .int 8, .int 54, .int 10, .int 52, .int 12, .int 50, .int 14, .int 48, .int 16, .int 46, .int 18, .int 44, .int 20, .int 42, .int 22, .int 40, .int 24, .int 38, .int 26, .int 36, .int 28, .int 34, .int 30, .int 32]), some (.fz (.int 67)), some (.fz (.int 62)), some (.fz (.int 62)), some (.fz (.int (126 + (c : Int)))), none, none] (by simp [q3])).trans ?_
    refine (turns_c (e1 := [some (.fz (.int 6)), some (.fz (.lst none [nT a, nT b, nT c])), some (.fz (.int 63)), some (.ol [.int 62, .int 2, .int 60, .int 4, .int 58, .int 6, .int 56, .int 8, .int 54, .int 10, .int 52, .int 12, .int 50, .int 14, .int 48, .int 16, .int 46, .int 18, .int 44, .int 20, .int 42, .int 22, .int 40, .int 24, .int 38, .int 26, .int 36, .int 28, .int 34, .int 30, .int 32]), some (.fz (.int 67)), some (.fz (.int 62)), some (.fz (.int 62)), some (.fz (.bl true)), none, none]) rfl [some (.fz (.int 6)), some (.fz (.lst none [nT a, nT b, nT c])), some (.fz (.int 63)), some (.ol [.int 62, .int 2, .int 60, .int 4, .int 58, .int 6, .int 56, .int 8, .int 54, .int 10, .int 52, .int 12, .int 50, .int 14, .int 48, .int 16, .int 46, .int 18, .int 44, .int 20, .int 42, .int 22, .int 40, .int 24, .int 38, .int 26, .int 36, .int 28, .int 34, .int 30, .int 32]), some (.fz (.int 67)), some (.fz (.int 62)), some (.fz (.int 62)), some (.fz (.bl true)), none, none] (by simp [q4])).trans ?_
    refine (turns_c (e1 := [some (.fz (.int 6)), some (.fz (.lst none [nT a, nT b, nT c])), some (.fz (.int 63)), some (.ol [.int 62, .int 2, .int 60, .int 4, .int 58, .int 6, .int 56, .int 8, .int 54, .int 10, .int 52, .int 12, .int 50, .int 14, .int 48, .int 16, .int 46, .int 18, .int 44, .int 20, .int 42, .int 22, .int 40, .int 24, .int 38, .int 26, .int 36, .int 28, .int 34, .int 30, .int 32]), some (.fz (.int 67)), some (.fz (.int 62)), some (.fz (.int 62)), some (.fz (.bl false)), none, none]) rfl [some (.fz (.int 6)), some (.fz (.lst none [nT a, nT b, nT c])), some (.fz (.int 63)), some (.ol [.int 62, .int 2, .int 60, .int 4, .int 58, .int 6, .int 56, .int 8, .int 54, .int 10, .int 52, .int 12, .int 50, .int 14, .int 48, .int 16, .int 46, .int 18, .int 44, .int 20, .int 42, .int 22, .int 40, .int 24, .int 38, .int 26, .int 36, .int 28, .int 34, .int 30, .int 32]), some (.fz (.int 67)), some (.fz (.int 62)), some (.fz (.int 62)), some (.fz (.bl false)), none, none] (by simp [q5])).trans ?_
    refine (turns_c (e1 := [some (.fz (.int 6)), some (.fz (.lst none [nT a, nT b, nT c])), some (.fz (.int 63)), some (.ol [.int 62, .int 2, .int 60, .int 4, .int 58, .int 6, .int 56, .int 8, .int 54, .int 10, .int 52, .int 12, .int 50, .int 14, .int 48, .int 16, .int 46, .int 18, .int 44, .int 20, .int 42, .int 22, .int 40, .int 24, .int 38, .int 26, .int 36, .int 28, .int 34, .int 30, .int 32]), some (.fz (.int 67)), some (.fz (.int 62)), some (.fz (.int 62)), some (.fz (.non)), none, none]) rfl [some (.fz (.int 6)), some (.fz (.lst none [nT a, nT b, nT c])), some (.fz (.int 63)), some (.ol [.int 62, .int 2, .int 60, .int 4, .int 58, .int 6, .int 56, .int 8, .int 54, .int 10, .int 52, .int 12, .int 50, .int 14, .int 48, .int 16, .int 46, .int 18, .int 44, .int 20, .int 42, .int 22, .int 40, .int 24, .int 38, .int 26, .int 36, .int 28, .int 34, .int 30, .int 32]), some (.fz (.int 67)), some (.fz (.int 62)), some (.fz (.int 62)), some (.fz (.non)), none, none] (by simp [q6])).trans ?_
    refine (turns_c (e1 := [some (.fz (.int 6)), some (.fz (.lst none [nT a, nT b, nT c])), some (.fz (.int 63)), some (.ol [.int 62, .int 2, .int 60, .int 4, .int 58, .int 6, .int 56, .int 8, .int 54, .int 10, .int 52, .int 12, .int 50, .int 14, .int 48, .int 16, .int 46, .int 18, .int 44, .int 20, .int 42, .int 22, .int 40, .int 24, .int 38, .int 26, .int 36, .int 28, .int 34, .int 30, .int 32]), some (.fz (.int 67)), some (.fz (.int 62)), some (.fz (.int 62)), some (.fz (.str "2")), none, none]) rfl [some (.fz (.int 6)), some (.fz (.lst none [nT a, nT b, nT c])), some (.fz (.int 63)), some (.ol [.int 62, .int 2, .int 60, .int 4, .int 58, .int 6, .int 56, .int 8, .int 54, .int 10, .int 52, .int 12, .int 50, .int 14, .int 48, .int 16, .int 46, .int 18, .int 44, .int 20, .int 42, .int 22, .int 40, .int 24, .int 38, .int 26, .int 36, .int 28, .int 34, .int 30, .int 32]), some (.fz (.int 67)), some (.fz (.int 62)), some (.fz (.int 62)), some (.fz (.str "2")), none, none] (by simp [q7])).trans ?_
    refine (turns_c (e1 := [some (.fz (.int 6)), some (.fz (.lst none [nT a, nT b, nT c])), some (.fz (.int 63)), some (.ol [.int 62, .int 2, .int 60, .int 4, .int 58, .int 6, .int 56, .int 8, .int 54, .int 10, .int 52, .int 12, .int 50, .int 14, .int 48, .int 16, .int 46, .int 18, .int 44, .int 20, .int 42, .int 22, .int 40, .int 24, .int 38, .int 26, .int 36, .int 28, .int 34, .int 30, .int 32]), some (.fz (.int 67)), some (.fz (.int 62)), some (.fz (.int 62)), some (.fz (.lst none [.int 2])), none, none]) rfl [some (.fz (.int 6)), some (.fz (.lst none [nT a, nT b, nT c])), some (.fz (.int 63)), some (.ol [.int 62, .int 2, .int 60, .int 4, .int 58, .int 6, .int 56, .int 8, .int 54, .int 10, .int 52, .int 12, .int 50, .int 14, .int 48, .int 16, .int 46, .int 18, .int 44, .int 20, .int 42, .int 22, .int 40, .int 24, .int 38, .int 26, .int 36, .int 28, .int 34, .int 30, .int 32]), some (.fz (.int 67)), some (.fz (.int 62)), some (.fz (.int 62)), some (.fz (.lst none [.int 2])), none, none] (by simp [q8])).trans ?_
    refine (turns_c (e1 := [some (.fz (.int 6)), some (.fz (.lst none [nT a, nT b, nT c])), some (.fz (.int 63)), some (.ol [.int 62, .int 2, .int 60, .int 4, .int 58, .int 6, .int 56, .int 8, .int 54, .int 10, .int 52, .int 12, .int 50, .int 14, .int 48, .int 16, .int 46, .int 18, .int 44, .int 20, .int 42, .int 22, .int 40, .int 24, .int 38, .int 26, .int 36, .int 28, .int 34, .int 30, .int 32]), some (.fz (.int 67)), some (.fz (.int 62)), some (.fz (.int 62)), some (.fz (.tup [.int 2])), none, none]) rfl [some (.fz (.int 6)), some (.fz (.lst none [nT a, nT b, nT c])), some (.fz (.int 63)), some (.ol [.int 62, .int 2, .int 60, .int 4, .int 58, .int 6, .int 56, .int 8, .int 54, .int 10, .int 52, .int 12, .int 50, .int 14, .int 48, .int 16, .int 46, .int 18, .int 44, .int 20, .int 42, .int 22, .int 40, .int 24, .int 38, .int 26, .int 36, .int 28, .int 34, .int 30, .int 32]), some (.fz (.int 67)), some (.fz (.int 62)), some (.fz (.int 62)), some (.fz (.tup [.int 2])), none, none] (by simp [q9])).trans ?_
    rfl) ?_
  refine sat_step (e1 := [some (.fz (.int 6)), some (.fz (.lst none [nT a, nT b, nT c])), some (.fz (.int 63)), some (.ol [.int 62, .int 2, .int 60, .int 4, .int 58, .int 6, .int 56, .int 8, .int 54, .int 10, .int 52, .int 12, .int 50, .int 14, .int 48, .int 16, .int 46, .int 18, .int 44, .int 20, .int 42, .int 22, .int 40, .int 24, .int 38, .int 26, .int 36, .int 28, .int 34, .int 30, .int 32]), some (.fz (.int 67)), some (.fz (.int 62)), some (.fz (.int 62)), some (.fz (.tup [.int 2])), some (.fz (.lst none [.int 2, .int 4, .int 6, .int 8, .int 10, .int 12, .int 14, .int 16, .int 18, .int 20, .int 22, .int 24, .int 26, .int 28, .int 30, .int 32, .int 34, .int 36, .int 38, .int 40, .int 42, .int 44, .int 46, .int 48, .int 50, .int 52, .int 54, .int 56, .int 58, .int 60, .int 62])), none]) (by
    simp [as1]) ?_
  have eL := pl_lst (ts := [.int 2, .int 4, .int 6, .int 8, .int 10, .int 12, .int 14, .int 16, .int 18, .int 20, .int 22, .int 24, .int 26, .int 28, .int 30, .int 32, .int 34, .int 36, .int 38, .int 40, .int 42, .int 44, .int 46, .int 48, .int 50, .int 52, .int 54, .int 56, .int 58, .int 60, .int 62]) (g := none) (g' := none) (n := 0) (fun t ht => by obtain ⟨i, _, rfl⟩ := List.mem_map.mp (show t ∈ ([2, 4, 6, 8, 10, 12, 14, 16, 18, 20, 22, 24, 26, 28, 30, 32, 34, 36, 38, 40, 42, 44, 46, 48, 50, 52, 54, 56, 58, 60, 62] : List Int).map T.int from ht); exact .int i) (by omega)
  refine sat_step (e1 := [some (.fz (.int 6)), some (.fz (.lst none [nT a, nT b, nT c])), some (.fz (.int 63)), some (.ol [.int 62, .int 2, .int 60, .int 4, .int 58, .int 6, .int 56, .int 8, .int 54, .int 10, .int 52, .int 12, .int 50, .int 14, .int 48, .int 16, .int 46, .int 18, .int 44, .int 20, .int 42, .int 22, .int 40, .int 24, .int 38, .int 26, .int 36, .int 28, .int 34, .int 30, .int 32]), some (.fz (.int 67)), some (.fz (.int 62)), some (.fz (.int 62)), some (.fz (.tup [.int 2])), some (.fz (.lst none [.int 2, .int 4, .int 6, .int 8, .int 10, .int 12, .int 14, .int 16, .int 18, .int 20, .int 22, .int 24, .int 26, .int 28, .int 30, .int 32, .int 34, .int 36, .int 38, .int 40, .int 42, .int 44, .int 46, .int 48, .int 50, .int 52, .int 54, .int 56, .int 58, .int 60, .int 62])), none]) (by
    have lc : P.lc [9] (S.tName 9) (P.rng2 (P.cons (P.c (.int 1)) (P.cons (P.bin T.shl (P.c (.int 1)) (P.bin T.sub (P.var d 0) (P.c (.int 1)))) P.nil))) P.yes (P.bin T.mul (P.c (.int 2)) (P.var d 9)) [some (.fz (.int 6)), some (.fz (.lst none [nT a, nT b, nT c])), some (.fz (.int 63)), some (.ol [.int 62, .int 2, .int 60, .int 4, .int 58, .int 6, .int 56, .int 8, .int 54, .int 10, .int 52, .int 12, .int 50, .int 14, .int 48, .int 16, .int 46, .int 18, .int 44, .int 20, .int 42, .int 22, .int 40, .int 24, .int 38, .int 26, .int 36, .int 28, .int 34, .int 30, .int 32]), some (.fz (.int 67)), some (.fz (.int 62)), some (.fz (.int 62)), some (.fz (.tup [.int 2])), some (.fz (.lst none [.int 2, .int 4, .int 6, .int 8, .int 10, .int 12, .int 14, .int 16, .int 18, .int 20, .int 22, .int 24, .int 26, .int 28, .int 30, .int 32, .int 34, .int 36, .int 38, .int 40, .int 42, .int 44, .int 46, .int 48, .int 50, .int 52, .int 54, .int 56, .int 58, .int 60, .int 62])), none] = .ok (.lst none [.int 2, .int 4, .int 6, .int 8, .int 10, .int 12, .int 14, .int 16, .int 18, .int 20, .int 22, .int 24, .int 26, .int 28, .int 30, .int 32, .int 34, .int 36, .int 38, .int 40, .int 42, .int 44, .int 46, .int 48, .int 50, .int 52, .int 54, .int 56, .int 58, .int 60, .int 62]) := by kernel_rfl
    simp [-ev_lc, lc, so1, eL.2]) ?_
  refine sat_seqI (fun e => ∃ o4, e = [some (.fz (.int 6)), some (.fz (.lst none [nT a, nT b, nT c])), some (.fz (.int 63)), some (.ol [.int 62, .int 2, .int 60, .int 4, .int 58, .int 6, .int 56, .int 8, .int 54, .int 10, .int 52, .int 12, .int 50, .int 14, .int 48, .int 16, .int 46, .int 18, .int 44, .int 20, .int 42, .int 22, .int 40, .int 24, .int 38, .int 26, .int 36, .int 28, .int 34, .int 30, .int 32]), o4, some (.fz (.int 62)), some (.fz (.int 62)), some (.fz (.tup [.int 2])), some (.fz (.lst none [.int 2, .int 4, .int 6, .int 8, .int 10, .int 12, .int 14, .int 16, .int 18, .int 20, .int 22, .int 24, .int 26, .int 28, .int 30, .int 32, .int 34, .int 36, .int 38, .int 40, .int 42, .int 44, .int 46, .int 48, .int 50, .int 52, .int 54, .int 56, .int 58, .int 60, .int 62])), none]) ?_ ?_
  · have hl := loop3 d [2, 4, 6, 8, 10, 12, 14, 16, 18, 20, 22, 24, 26, 28, 30, 32, 34, 36, 38, 40, 42, 44, 46, 48, 50, 52, 54, 56, 58, 60, 62] (.int 6) (.lst none [nT a, nT b, nT c]) (.int 63) [.int 62, .int 2, .int 60, .int 4, .int 58, .int 6, .int 56, .int 8, .int 54, .int 10, .int 52, .int 12, .int 50, .int 14, .int 48, .int 16, .int 46, .int 18, .int 44, .int 20, .int 42, .int 22, .int 40, .int 24, .int 38, .int 26, .int 36, .int 28, .int 34, .int 30, .int 32] (some (.fz (.int 67))) (some (.fz (.int 62))) (some (.fz (.int 62))) (some (.fz (.tup [.int 2])))
    simp
    exact hl
  rintro e ⟨o4, rfl⟩
  simp [as1, eL.1]
theorem holds_all (d n a b c : Nat) (h1 : 2 ≤ n) (h2 : n ≤ 6) : f__law_holds d [nT n, .lst none [nT a, nT b, nT c]] = .ok (.bl true) := by
  match n, h1, h2 with
  | 2, _, _ => exact hold_2 d a b c
  | 3, _, _ => exact hold_3 d a b c
  | 4, _, _ => exact hold_4 d a b c
  | 5, _, _ => exact hold_5 d a b c
  | 6, _, _ => exact hold_6 d a b c
theorem pure_law (ns : List Int) (_ : ns.length ≤ 63) : f_law 1 [.ro (ns.map T.int)] = .ok (.bl true) := by
  obtain ⟨c0, hc0⟩ := cell_ev 2 ns 0 (by omega)
  have hc0' : f__law_cell 2 [.ro (ns.map T.int), .int 0] = .ok (.int c0) := hc0
  obtain ⟨r, hk, hdg⟩ := digitsN_ev 2 c0 none [5, 4, 1000, 1000, 1000] (by decide) (by decide)
  have hd : f__law_digits 2 [.int c0, .lst none [.int 5, .int 4, .int 1000, .int 1000, .int 1000]] = .ok (.lst none (r.map nT)) := hdg
  obtain ⟨r0, r1, a, b, c, rfl⟩ : ∃ r0 r1 a b c, r = [r0, r1, a, b, c] := by
    have hl : r.length = 5 := hk.length
    match r, hl with
    | [r0, r1, a, b, c], _ => exact ⟨r0, r1, a, b, c, rfl⟩
  have k0 : r0 < 5 := hk.1
  have e1 : T.mod (.int ((r0 : Int) + 1 + (r1 : Int))) (.int 5) = some (nT ((r0 + 1 + r1) % 5)) := by
    rw [mod_int (by omega)]
    rfl
  have h1 := holds_all 2 (2 + r0) a b c (by omega) (by omega)
  have h2 := holds_all 2 (2 + (r0 + 1 + r1) % 5) a b c (by omega) (by omega)
  have n1 : T.int (2 + (r0 : Int)) = nT (2 + r0) := by show T.int _ = T.int _; congr 1
  have n2 : T.int (2 + (((r0 + 1 + r1) % 5 : Nat) : Int)) = nT (2 + (r0 + 1 + r1) % 5) := by show T.int _ = T.int _; congr 1
  have lo := cutL_lo none [nT r0, nT r1, nT a, nT b, nT c] 2
  have lo' : T.cutA (.lst none [nT r0, nT r1, nT a, nT b, nT c]) (some 2) none = some (.lst none [nT a, nT b, nT c]) := lo
  show run 4 (S_law 1) _ = _
  refine run_is ?_
  unfold S_law
  rw [ent_eq]
  refine sat_step (e1 := [some (.fz (.ro (ns.map T.int))), some (.fz (.lst none [nT r0, nT r1, nT a, nT b, nT c])), none, none]) (by
    have l5 : lfit 5 = true := rfl
    generalize ns.map T.int = L at *
    simp [hc0', hd, l5, ent_eq]) ?_
  generalize ns.map T.int = L at *
  refine sat_step (e1 := [some (.fz (.ro L)), some (.fz (.lst none [nT r0, nT r1, nT a, nT b, nT c])), some (.fz (nT (2 + r0))), none]) (by
    simp) ?_
  refine sat_step (e1 := [some (.fz (.ro L)), some (.fz (.lst none [nT r0, nT r1, nT a, nT b, nT c])), some (.fz (nT (2 + r0))), some (.fz (nT (2 + (r0 + 1 + r1) % 5)))]) (by
    simp [e1]) ?_
  generalize 2 + r0 = n at *
  generalize 2 + (r0 + 1 + r1) % 5 = m at *
  simp [lo', h1, h2]
end Lw

theorem PySem.Challenge.cw_fullsides_k18_sides_holds : PySem.Challenge.rw_fullsides_k18_sides.Holds := by
  exact lw_holds Lw.pure_law
