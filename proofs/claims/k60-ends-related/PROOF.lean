import PyProof.Rows.All
import Wide.All
import OpenK.AllK
import Wide.FinOn
import HandS.ForMost
import HandS.ForExc
import HandS.Deep
import HandS.TupAny
import HandS.Codes
import HandS.IsInst
import HandS.ExcInit
import HandS.ExcField
import HandS.ExcIs
import KE.KExcIs
import HandS.Defaults
import PySem.Challenge.RW_answersby_k60_ends_related
set_option Elab.async false
set_option linter.all false
set_option maxRecDepth 100000
set_option maxHeartbeats 1000000
set_option autoImplicit false
/-! PD: plain data over the hand layer. -/
namespace PD
open PySem L2

/-- plain data -/
inductive D where
  | non | bl (b : Bool) | int (i : Int) | str (s : Str) | lst (xs : List D) | tup (xs : List D) | ins (c : Nat) (fs : List (Str × D))

/-- a run with draws -/
inductive Dr (A : Type) where
  | ret (a : A) | take (n : Nat) (k : Nat → Dr A) | fail

namespace Dr
def bind {A B : Type} : Dr A → (A → Dr B) → Dr B
  | ret a, f => f a
  | take n k, f => take n fun r => (k r).bind f
  | fail, _ => fail
def All {A : Type} (P : A → Prop) : Dr A → Prop
  | ret a => P a
  | take n k => 0 < n ∧ n ≤ 1000000 ∧ ∀ r, r < n → (k r).All P
  | fail => False
theorem all_bind {A B : Type} {P : B → Prop} {f : A → Dr B} : ∀ {x : Dr A}, (x.bind f).All P ↔ x.All fun a => (f a).All P
  | ret _ => Iff.rfl
  | fail => Iff.rfl
  | take n k => by
    show (0 < n ∧ n ≤ 1000000 ∧ ∀ r, r < n → ((k r).bind f).All P) ↔ (0 < n ∧ n ≤ 1000000 ∧ ∀ r, r < n → (k r).All fun a => (f a).All P)
    exact ⟨fun h => ⟨h.1, h.2.1, fun r hr => all_bind.mp (h.2.2 r hr)⟩, fun h => ⟨h.1, h.2.1, fun r hr => all_bind.mpr (h.2.2 r hr)⟩⟩
theorem All.imp {A : Type} {P Q : A → Prop} (h : ∀ a, P a → Q a) : ∀ {x : Dr A}, x.All P → x.All Q
  | ret _, p => h _ p
  | fail, p => p
  | take _ _, p => ⟨p.1, p.2.1, fun r hr => (p.2.2 r hr).imp h⟩
end Dr

/-- an exception: its class by number, the value of its field -/
structure Exn where
  c : Nat
  v : D
abbrev M (A : Type) := Dr (Except Exn A)
def M.ok {A : Type} (a : A) : M A := .ret (.ok a)
def M.bind {A B : Type} (x : M A) (f : A → M B) : M B := Dr.bind x fun
  | .ok a => f a
  | .error e => .ret (.error e)
/-- what is asked of an outcome: of a value, of an error -/
def Out {A : Type} (P : A → Prop) (E : Exn → Prop) : Except Exn A → Prop
  | .ok a => P a
  | .error e => E e
theorem M.all_bind {A B : Type} {P : B → Prop} {E : Exn → Prop} {f : A → M B} {x : M A} : (x.bind f).All (Out P E) ↔ x.All (Out (fun a => (f a).All (Out P E)) E) := by
  unfold M.bind
  rw [Dr.all_bind]
  constructor
  · intro h
    exact h.imp fun a p => by
      cases a with
      | ok a => exact p
      | error e => exact p
  · intro h
    exact h.imp fun a p => by
      cases a with
      | ok a => exact p
      | error e => exact p
def M.opt {A : Type} : Option A → M A
  | some a => .ok a
  | none => .fail
theorem M.all_opt {A : Type} {P : A → Prop} {E : Exn → Prop} {o : Option A} : (M.opt o).All (Out P E) ↔ ∃ a, o = some a ∧ P a := by
  cases o with
  | none =>
    show False ↔ _
    simp
  | some a =>
    show P a ↔ _
    simp

/-- a result: data, or a new list of one's own -/
inductive R where
  | dat (d : D) | own (ds : List D)
def R.d : R → D
  | .dat d => d
  | .own ds => .lst ds
/-- what a slot holds -/
inductive Sl where
  | dat (d : D) | own (ds : List D) | pool | scr (ns : List Int) | exc (x : Exn)
abbrev Ev := List (Option Sl)

/-! ### the world of a program: the written part, the classes of instances and of errors by number -/
structure Cw where
  K : PySem.W.Frag
  cl : Nat → Addr
  xc : Nat → Addr
  xf : Nat → Str
  sx : Option (Addr × Value × Addr) := none

/-! ### what stands for what -/
mutual
inductive Rp (c : Cw) (H : Hp) : V → D → Prop
  | non : Rp c H .non .non
  | bl (b : Bool) : Rp c H (.bl b) (.bl b)
  | int (i : Int) : Rp c H (.int i) (.int i)
  | str (x : Str) : Rp c H (.str x) (.str x)
  | lst {a : Addr} {xs : List V} {ds : List D} : H a = some (.lst xs) → Rps c H xs ds → Rp c H (.ref a) (.lst ds)
  | tup {a : Addr} {xs : List V} {ds : List D} : SqT c.K H a xs → Rps c H xs ds → Rp c H (.ref a) (.tup ds)
  | ins {a dx : Addr} {n : Nat} {fs : List (Str × V)} {ds : List (Str × D)} : H a = some (.ins (c.cl n) dx fs) → Rpf c H fs ds → Rp c H (.ref a) (.ins n ds)
inductive Rps (c : Cw) (H : Hp) : List V → List D → Prop
  | nil : Rps c H [] []
  | cons {v : V} {vs : List V} {d : D} {ds : List D} : Rp c H v d → Rps c H vs ds → Rps c H (v :: vs) (d :: ds)
inductive Rpf (c : Cw) (H : Hp) : List (Str × V) → List (Str × D) → Prop
  | nil : Rpf c H [] []
  | cons {n : Str} {v : V} {vs : List (Str × V)} {d : D} {ds : List (Str × D)} : Rp c H v d → Rpf c H vs ds → Rpf c H ((n, v) :: vs) ((n, d) :: ds)
end

theorem same_r {H H' : Hp} {a : Addr} {u : HO} (e : Same H H') (h : Rd H a u) : Rd H' a u := by
  rcases h with h | ⟨o, h⟩
  · exact .inl (e _ _ h)
  · exact .inr ⟨o, e _ _ h⟩
theorem same_t {K : PySem.W.Frag} {H H' : Hp} {a : Addr} {xs : List V} (e : Same H H') (h : SqT K H a xs) : SqT K H' a xs := by
  rcases h with (h | ⟨o, h⟩) | h
  · exact .inl (.inl (e _ _ h))
  · exact .inl (.inr ⟨o, e _ _ h⟩)
  · exact .inr h
mutual
theorem Rp.mono {c : Cw} {H H' : Hp} (e : Same H H') : ∀ {v : V} {d : D}, Rp c H v d → Rp c H' v d
  | _, _, .non => .non
  | _, _, .bl b => .bl b
  | _, _, .int i => .int i
  | _, _, .str x => .str x
  | _, _, .lst h r => .lst (e _ _ h) (Rps.mono e r)
  | _, _, .tup h r => .tup (same_t e h) (Rps.mono e r)
  | _, _, .ins h r => .ins (e _ _ h) (Rpf.mono e r)
theorem Rps.mono {c : Cw} {H H' : Hp} (e : Same H H') : ∀ {v : List V} {d : List D}, Rps c H v d → Rps c H' v d
  | _, _, .nil => .nil
  | _, _, .cons a b => .cons (Rp.mono e a) (Rps.mono e b)
theorem Rpf.mono {c : Cw} {H H' : Hp} (e : Same H H') : ∀ {v : List (Str × V)} {d : List (Str × D)}, Rpf c H v d → Rpf c H' v d
  | _, _, .nil => .nil
  | _, _, .cons a b => .cons (Rp.mono e a) (Rpf.mono e b)
end
theorem Rps.length {c : Cw} {H : Hp} : ∀ {vs : List V} {ds : List D}, Rps c H vs ds → vs.length = ds.length
  | _, _, .nil => rfl
  | _, _, .cons _ b => by rw [List.length_cons, List.length_cons, Rps.length b]
theorem Rps.append {c : Cw} {H : Hp} : ∀ {vs ws : List V} {ds es : List D}, Rps c H vs ds → Rps c H ws es → Rps c H (vs ++ ws) (ds ++ es)
  | _, _, _, _, .nil, s => s
  | _, _, _, _, .cons a b, s => .cons a (b.append s)
theorem Rps.get {c : Cw} {H : Hp} : ∀ {vs : List V} {ds : List D} {i : Nat} {d : D}, Rps c H vs ds → ds[i]? = some d → ∃ v, vs[i]? = some v ∧ Rp c H v d
  | _, _, i, d, .nil, e => by simp at e
  | _, _, 0, d, .cons a _, e => by
    simp at e
    subst e
    exact ⟨_, rfl, a⟩
  | _, _, i + 1, d, .cons _ b, e => by
    obtain ⟨v, h1, h2⟩ := Rps.get (i := i) b (by simpa using e)
    exact ⟨v, by simpa using h1, h2⟩
theorem Rps.get' {c : Cw} {H : Hp} : ∀ {vs : List V} {ds : List D} {i : Nat} {v : V}, Rps c H vs ds → vs[i]? = some v → ∃ d, ds[i]? = some d ∧ Rp c H v d
  | _, _, i, d, .nil, e => by simp at e
  | _, _, 0, d, .cons a _, e => by
    simp at e
    subst e
    exact ⟨_, rfl, a⟩
  | _, _, i + 1, d, .cons _ b, e => by
    obtain ⟨v, h1, h2⟩ := Rps.get' (i := i) b (by simpa using e)
    exact ⟨v, by simpa using h1, h2⟩
theorem Rps.drop {c : Cw} {H : Hp} : ∀ (n : Nat) {vs : List V} {ds : List D}, Rps c H vs ds → Rps c H (vs.drop n) (ds.drop n)
  | 0, _, _, r => r
  | n + 1, _, _, .nil => .nil
  | n + 1, _, _, .cons _ b => Rps.drop n b
theorem Rps.take {c : Cw} {H : Hp} : ∀ (n : Nat) {vs : List V} {ds : List D}, Rps c H vs ds → Rps c H (vs.take n) (ds.take n)
  | 0, _, _, _ => .nil
  | n + 1, _, _, .nil => .nil
  | n + 1, _, _, .cons a b => .cons a (Rps.take n b)
theorem Rps.set {c : Cw} {H : Hp} : ∀ (n : Nat) {vs : List V} {ds : List D} {v : V} {d : D}, Rps c H vs ds → Rp c H v d → Rps c H (vs.set n v) (ds.set n d)
  | _, _, _, _, _, .nil, _ => .nil
  | 0, _, _, _, _, .cons _ b, r => .cons r b
  | n + 1, _, _, _, _, .cons a b, r => .cons a (Rps.set n b r)

/-! ### the pool: a list of two ints that draws change -/
def PoolOk (p : Option Addr) (Hd H : Hp) : Prop := ∀ a, p = some a → Hd a = none ∧ ∃ x y : Int, H a = some (.lst [.int x, .int y]) ∧ 0 ≤ x ∧ 0 ≤ y ∧ y < 2147483647

/-- from (Hd, H) to (Hd', H'): the data's heap Hd grows; what is not data stays as it is, but for the pool -/
structure Go (p : Option Addr) (Hd H Hd' H' : Hp) : Prop where
  d : Same Hd Hd'
  s : Same Hd' H'
  o : ∀ a u, H a = some u → Hd a = none → Hd' a = none ∧ (p ≠ some a → H' a = some u)
  q : PoolOk p Hd' H'
theorem Go.refl {p : Option Addr} {Hd H : Hp} (s : Same Hd H) (q : PoolOk p Hd H) : Go p Hd H Hd H := ⟨Same.refl _, s, fun _ _ e n => ⟨n, fun _ => e⟩, q⟩
theorem Go.trans {p : Option Addr} {Hd H Hd1 H1 Hd2 H2 : Hp} (a : Go p Hd H Hd1 H1) (b : Go p Hd1 H1 Hd2 H2) : Go p Hd H Hd2 H2 :=
  ⟨a.d.trans b.d, b.s, fun x u e n => by
    obtain ⟨n1, k1⟩ := a.o x u e n
    by_cases hp : p = some x
    · obtain ⟨_, z1, z2, hz, _⟩ := a.q x hp
      exact ⟨(b.o x _ hz n1).1, fun z => absurd hp z⟩
    · obtain ⟨n2, k2⟩ := b.o x u (k1 hp) n1
      exact ⟨n2, fun z => k2 z⟩, b.q⟩
/-- all that was tracked is tracked -/
theorem Go.dom {p : Option Addr} {Hd H Hd' H' : Hp} (g : Go p Hd H Hd' H') (sm : Same Hd H) {a : Addr} (h : H' a = none) : H a = none := by
  cases e : H a with
  | none => rfl
  | some u =>
    cases n : Hd a with
    | some w =>
      rw [g.s a w (g.d a w n)] at h
      cases h
    | none =>
      by_cases hp : p = some a
      · obtain ⟨_, z1, z2, hz, _⟩ := g.q a hp
        rw [hz] at h
        cases h
      · rw [(g.o a u e n).2 hp] at h
        cases h
/-- new data -/
theorem Go.new {p : Option Addr} {Hd H : Hp} (sm : Same Hd H) (q : PoolOk p Hd H) {a : Addr} (n : H a = none) (u : HO) : Go p Hd H (upd Hd a u) (upd H a u) := by
  have nd : Hd a = none := sm.free n
  refine ⟨fun b o e => ?_, fun b o e => ?_, fun b o e m => ?_, fun b hb => ?_⟩
  · rw [upd_ne (ne_of_none e nd)]
    exact e
  · by_cases h : b = a
    · subst h
      rw [upd_same] at e ⊢
      exact e
    · rw [upd_ne h] at e ⊢
      exact sm b o e
  · have h : b ≠ a := ne_of_none e n
    rw [upd_ne h, upd_ne h]
    exact ⟨m, fun _ => e⟩
  · obtain ⟨h1, x, y, h2, h3⟩ := q b hb
    have h : b ≠ a := ne_of_none h2 n
    rw [upd_ne h, upd_ne h]
    exact ⟨h1, x, y, h2, h3⟩
/-- a new object that is no data (yet) -/
theorem Go.newOwn {p : Option Addr} {Hd H : Hp} (sm : Same Hd H) (q : PoolOk p Hd H) {a : Addr} (n : H a = none) (u : HO) : Go p Hd H Hd (upd H a u) := by
  refine ⟨Same.refl _, fun b o e => ?_, fun b o e m => ?_, fun b hb => ?_⟩
  · rw [upd_ne (ne_of_none (sm b o e) n)]
    exact sm b o e
  · rw [upd_ne (ne_of_none e n)]
    exact ⟨m, fun _ => e⟩
  · obtain ⟨h1, x, y, h2, h3⟩ := q b hb
    rw [upd_ne (ne_of_none h2 n)]
    exact ⟨h1, x, y, h2, h3⟩
/-- an own list becomes data -/
theorem Go.freeze {p : Option Addr} {Hd H Hd' H' : Hp} (g : Go p Hd H Hd' H') {l : Addr} {u : HO} (n : H l = none) (n' : Hd' l = none) (np : p ≠ some l) (e : H' l = some u) : Go p Hd H (upd Hd' l u) H' := by
  refine ⟨fun b o h => ?_, fun b o h => ?_, fun b o h m => ?_, fun b hb => ?_⟩
  · have h' := g.d b o h
    rw [upd_ne (ne_of_none h' n')]
    exact h'
  · by_cases hb : b = l
    · subst hb
      rw [upd_same] at h
      cases h
      exact e
    · rw [upd_ne hb] at h
      exact g.s b o h
  · rw [upd_ne (ne_of_none h n)]
    exact g.o b o h m
  · obtain ⟨h1, x, y, h2, h3⟩ := g.q b hb
    have : b ≠ l := fun z => np (by rw [← z]; exact hb)
    rw [upd_ne this]
    exact ⟨h1, x, y, h2, h3⟩

/-- a result, behind a run from H to (Hd', H') -/
def ResOk (c : Cw) (p : Option Addr) (H Hd' H' : Hp) (v : V) : R → Prop
  | .dat d => Rp c Hd' v d
  | .own ds => ∃ (l : Addr) (vs : List V), v = .ref l ∧ H l = none ∧ Hd' l = none ∧ p ≠ some l ∧ H' l = some (.lst vs) ∧ Rps c Hd' vs ds
/-- taken as data -/
theorem res_dat {c : Cw} {p : Option Addr} {Hd H Hd' H' : Hp} {v : V} {r : R} (g : Go p Hd H Hd' H') (k : ResOk c p H Hd' H' v r) : ∃ Hd'', Go p Hd H Hd'' H' ∧ Rp c Hd'' v r.d := by
  cases r with
  | dat d => exact ⟨Hd', g, k⟩
  | own ds =>
    obtain ⟨l, vs, rfl, n, n', np, e, rs⟩ := k
    have g2 := g.freeze n n' np e
    refine ⟨_, g2, .lst upd_same (rs.mono fun b o h => ?_)⟩
    rw [upd_ne (ne_of_none h n')]
    exact h

/-! ### slots -/
def SlOk (c : Cw) (p : Option Addr) (Hd H : Hp) (v : V) : Sl → Prop
  | .dat d => Rp c Hd v d
  | .own ds => ∃ (l : Addr) (vs : List V), v = .ref l ∧ Hd l = none ∧ p ≠ some l ∧ H l = some (.lst vs) ∧ Rps c Hd vs ds
  | .pool => ∃ a, p = some a ∧ v = .ref a
  | .scr ns => ∃ a, v = .ref a ∧ SqL c.K Hd a (ns.map V.int) ∧ ns.length ≤ 63
  | .exc x => ∃ (a dd : Addr) (u : V), c.sx = some (a, .ref (c.xc x.c), dd) ∧ v = .ref a ∧ Hd dd = none ∧ p ≠ some dd ∧ H dd = some (.xd [(c.xf x.c, u)]) ∧ Rp c Hd u x.v
structure Ok (c : Cw) (p : Option Addr) (Hd H : Hp) (σ : St) (ev : Ev) : Prop where
  same : Same Hd H
  pool : PoolOk p Hd H
  len : σ.length = ev.length
  sl : ∀ (i : Nat) (s : Sl), ev[i]? = some (some s) → ∃ v, σ[i]? = some (some v) ∧ SlOk c p Hd H v s
  ne : ∀ (i j : Nat) (ds es : List D) (l : Addr), i ≠ j → ev[i]? = some (some (.own ds)) → ev[j]? = some (some (.own es)) → σ[i]? = some (some (.ref l)) → σ[j]? ≠ some (some (.ref l))
theorem SlOk.go {c : Cw} {p : Option Addr} {Hd H Hd' H' : Hp} {v : V} {s : Sl} (g : Go p Hd H Hd' H') (k : SlOk c p Hd H v s) : SlOk c p Hd' H' v s := by
  cases s with
  | dat d => exact Rp.mono g.d k
  | own ds =>
    obtain ⟨l, vs, e, n, np, h, rs⟩ := k
    exact ⟨l, vs, e, (g.o l _ h n).1, np, (g.o l _ h n).2 np, rs.mono g.d⟩
  | pool => exact k
  | scr ns =>
    obtain ⟨a, e, h, l⟩ := k
    exact ⟨a, e, g.d.seq h, l⟩
  | exc x =>
    obtain ⟨a, dd, u, e, e2, n, np, h, r⟩ := k
    exact ⟨a, dd, u, e, e2, (g.o dd _ h n).1, np, (g.o dd _ h n).2 np, r.mono g.d⟩
theorem Ok.go {c : Cw} {p : Option Addr} {Hd H Hd' H' : Hp} {σ : St} {ev : Ev} (k : Ok c p Hd H σ ev) (g : Go p Hd H Hd' H') : Ok c p Hd' H' σ ev :=
  ⟨g.s, g.q, k.len, fun i s e => let ⟨v, h1, h2⟩ := k.sl i s e; ⟨v, h1, h2.go g⟩, k.ne⟩
theorem Ok.refl {c : Cw} {p : Option Addr} {Hd H : Hp} {σ : St} {ev : Ev} (k : Ok c p Hd H σ ev) : Go p Hd H Hd H := Go.refl k.same k.pool

/-! ### expressions: e is mirrored by m -/
/-- an error in the air: its class, its dict with the one field -/
def XOk (c : Cw) (Hd' H' : Hp) (x : Exn) (cls : Value) (d : Option Addr) : Prop := ∃ (dd : Addr) (v : V), cls = .ref (c.xc x.c) ∧ d = some dd ∧ H' dd = some (.xd [(c.xf x.c, v)]) ∧ Hd' dd = none ∧ Rp c Hd' v x.v
def Wants (c : Cw) (W : WX) (p : Option Addr) (Hd H : Hp) (σ : St) (Q : VK) : Except Exn R → Prop :=
  Out (fun r => ∀ v Hd' H', Go p Hd H Hd' H' → ResOk c p H Hd' H' v r → Q v H') fun x => ∀ cls d Hd' H', Go p Hd H Hd' H' → XOk c Hd' H' x cls d → W cls d σ H'
def RE (c : Cw) (W : WX) (m : Ev → M R) : TE := fun σ H Q => ∃ p Hd ev, Ok c p Hd H σ ev ∧ (m ev).All (Wants c W p Hd H σ Q)
theorem PE.weak {X : Cx} {e : Expr} {t t' : TE} (h : PE X e t') (k : ∀ σ H Q, t σ H Q → t' σ H Q) : PE X e t := ⟨fun pins s σ H Q I q => h.run pins s σ H Q I (k σ H Q q)⟩
theorem PT.weak {X : Cx} {e : Expr} {t t' : TT} (h : PT X e t') (k : ∀ σ H Q, t σ H Q → t' σ H Q) : PT X e t := ⟨fun pins s σ H Q I q => h.run pins s σ H Q I (k σ H Q q)⟩
theorem PS.weak {X : Cx} {e : Stmt} {t t' : TS} (h : PS X e t') (k : ∀ σ H Q, t Q σ H → t' Q σ H) : PS X e t := ⟨fun pins s σ H Q I q => h.run pins s σ H Q I (k σ H Q q)⟩
theorem PSs.weak {X : Cx} {e : List Stmt} {t t' : TS} (h : PSs X e t') (k : ∀ σ H Q, t Q σ H → t' Q σ H) : PSs X e t := ⟨fun pins s σ H Q I q => h.run pins s σ H Q I (k σ H Q q)⟩

/-- the world fits the context -/
structure Fits (c : Cw) (X : Cx) (W : WX) : Prop where
  K : X.K = c.K
  tk : Takes X W

/-- as data, and on -/
def mD (m : Ev → M R) (ev : Ev) : M D := (m ev).bind fun r => M.ok r.d
theorem re_then {c : Cw} {W : WX} {m : Ev → M R} {p : Option Addr} {Hd H : Hp} {σ : St} {ev : Ev} {Q : VK} (k : Ok c p Hd H σ ev)
    (h : (mD m ev).All (Out (fun d => ∀ v Hd1 H1, Go p Hd H Hd1 H1 → Rp c Hd1 v d → Q v H1) fun x => ∀ cls d Hd' H', Go p Hd H Hd' H' → XOk c Hd' H' x cls d → W cls d σ H')) : RE c W m σ H Q := by
  refine ⟨p, Hd, ev, k, ?_⟩
  unfold mD at h
  rw [M.all_bind] at h
  refine h.imp fun o q => ?_
  cases o with
  | error x => exact q
  | ok r =>
    intro v Hd' H' g rk
    obtain ⟨Hd2, g2, r2⟩ := res_dat g rk
    exact q v Hd2 H' g2 r2
/-- what an error may bring, from a later state -/
theorem xlater {c : Cw} {W : WX} {p : Option Addr} {Hd H Hd1 H1 : Hp} {σ : St} {x : Exn} (g : Go p Hd H Hd1 H1) (h : ∀ cls d Hd' H', Go p Hd H Hd' H' → XOk c Hd' H' x cls d → W cls d σ H') :
    ∀ cls d Hd' H', Go p Hd1 H1 Hd' H' → XOk c Hd' H' x cls d → W cls d σ H' := fun cls d Hd' H' g' => h cls d Hd' H' (g.trans g')
end PD

set_option Elab.async false
set_option linter.all false
set_option maxRecDepth 100000
set_option maxHeartbeats 1000000
set_option autoImplicit false
namespace PD
open PySem L2
section
variable {c : Cw} {X : Cx} {W : WX}

theorem ResOk.back {p : Option Addr} {Hd H Hd1 H1 Hd' H' : Hp} {v : V} {r : R} (sm : Same Hd H) (g : Go p Hd H Hd1 H1) (k : ResOk c p H1 Hd' H' v r) : ResOk c p H Hd' H' v r := by
  cases r with
  | dat d => exact k
  | own ds =>
    obtain ⟨l, vs, e, n, r⟩ := k
    exact ⟨l, vs, e, g.dom sm n, r⟩

abbrev DE (c : Cw) (X : Cx) (W : WX) (e : Expr) (m : Ev → M R) : Prop := PE X e (RE c W m)

/-! ### names, constants -/
def mVar (i : Nat) (ev : Ev) : M R := match ev[i]? with
  | some (some (.dat d)) => M.ok (.dat d)
  | _ => .fail
theorem de_var (i : Nat) {x : Str} {pos : Pos} (hN : X.N[i]? = some x := by rfl) (hv : Vis X.env.scope x := by first | exact Or.inl rfl | exact Or.inr (Or.inl rfl) | exact Or.inr (Or.inr rfl)) (hd : (x == ("__debug__" : Str)) = false := by decide)
    (hcd : (x == ("__classdict__" : Str)) = false := by decide) : DE c X W (.Name x pos) (mVar i) := by
  refine PE.weak (pe_var hN hv hd hcd) fun σ H Q h => ?_
  obtain ⟨p, Hd, ev, k, h⟩ := h
  unfold mVar at h
  split at h
  · rename_i d e
    obtain ⟨v, e1, e2⟩ := k.sl i _ e
    exact ⟨v, e1, h v Hd H k.refl e2⟩
  · exact h.elim
def mC (d : D) (_ : Ev) : M R := M.ok (.dat d)
theorem de_c {e : Expr} {v : V} {d : D} (h : PE X e (tC v)) (r : ∀ H, Rp c H v d) : DE c X W e (mC d) := by
  refine PE.weak h fun σ H Q h => ?_
  obtain ⟨p, Hd, ev, k, h⟩ := h
  exact h v Hd H k.refl (r Hd)
theorem de_int {i j pos} : DE c X W (.Constant (.int i) j pos) (mC (.int i)) := de_c pe_int fun _ => .int _
theorem de_bl {b j pos} : DE c X W (.Constant (.bool b) j pos) (mC (.bl b)) := de_c pe_bl fun _ => .bl _
theorem de_non {j pos} : DE c X W (.Constant .none j pos) (mC .non) := de_c pe_non fun _ => .non
theorem de_str {x j pos} : DE c X W (.Constant (.str x) j pos) (mC (.str x)) := de_c pe_str fun _ => .str _
/-- a module's constant -/
structure Glob (c : Cw) (mg : Str → Option Value) (x : Str) (d : D) : Prop where
  ex : ∃ (u : Value) (v : V), mg x = some u ∧ RelV v u ∧ ∀ H, Rp c H v d
theorem de_glob {x : Str} {d : D} {pos : Pos} (G : Glob c X.mg x d) (hg : Gl X x) (hd : (x == ("__debug__" : Str)) = false := by decide) : DE c X W (.Name x pos) (mC d) := by
  obtain ⟨u, v, h1, h2, h3⟩ := G.ex
  exact de_c (pe_glob hg h1 h2 hd) h3

/-! ### two places -/
def rG (c : Cw) (g : D → D → Option R) : R2 := fun x y H Q => ∃ p Hd dx dy r, Same Hd H ∧ PoolOk p Hd H ∧ Rp c Hd x dx ∧ Rp c Hd y dy ∧ g dx dy = some r ∧ ∀ v Hd' H', Go p Hd H Hd' H' → ResOk c p H Hd' H' v r → Q v H'
def mOp (g : D → D → Option R) (ma mb : Ev → M R) (ev : Ev) : M R := (mD ma ev).bind fun x => (mD mb ev).bind fun y => M.opt (g x y)
theorem re_op {g : D → D → Option R} {ma mb : Ev → M R} : ∀ σ H Q, RE c W (mOp g ma mb) σ H Q → tOp (rG c g) (RE c W ma) (RE c W mb) σ H Q := by
  rintro σ H Q ⟨p, Hd, ev, k, h⟩
  have h1 := M.all_bind.mp h
  refine re_then k (h1.imp fun o q => ?_)
  cases o with
  | error x => exact q
  | ok dx =>
    intro v Hd1 H1 g1 r1
    have h2 := M.all_bind.mp (show Dr.All _ _ from q)
    refine re_then (k.go g1) (h2.imp fun o q => ?_)
    cases o with
    | error x => exact xlater g1 q
    | ok dy =>
      intro u Hd2 H2 g2 r2
      obtain ⟨r, e, q3⟩ := M.all_opt.mp (show Dr.All _ _ from q)
      exact ⟨p, Hd2, dx, dy, r, g2.s, g2.q, r1.mono g2.d, r2, e, fun w Hd3 H3 g3 rk => q3 w Hd3 H3 ((g1.trans g2).trans g3) (rk.back k.same (g1.trans g2))⟩
theorem de_bin {op : Operator} {g : D → D → Option R} {a b : Expr} {ma mb : Ev → M R} {pos : Pos} (ho : OpR X (binaryOp op) (rG c g)) (ha : DE c X W a ma) (hb : DE c X W b mb) : DE c X W (.BinOp a op b pos) (mOp g ma mb) := PE.weak (pe_op ho ha hb) re_op
theorem de_cmp {op : CmpOp} {g : D → D → Option R} {a b : Expr} {ma mb : Ev → M R} {pos : Pos} (ho : OpR X (compareOp op) (rG c g)) (ha : DE c X W a ma) (hb : DE c X W b mb) (hm : behindInMarks op b = false := by rfl) : DE c X W (.Compare a [op] [b] pos) (mOp g ma mb) := PE.weak (pe_cmpR ho ha hb hm) re_op
theorem de_ix {g : D → D → Option R} {a b : Expr} {ma mb : Ev → M R} {pos : Pos} (ho : IxR X (rG c g)) (ha : DE c X W a ma) (hb : DE c X W b mb) (hs : PlainIx b := by intro _ _; rfl) : DE c X W (.Subscript a b pos) (mOp g ma mb) := PE.weak (pe_ix ho ha hb hs) re_op

/-! ### the operators on data -/
def gAdd : D → D → Option R
  | .int i, .int j => some (.dat (.int (i + j)))
  | .str x, .str y => if x.length + y.length ≤ sizeLine then some (.dat (.str (x ++ y))) else none
  | .lst xs, .lst ys => if xs.length + ys.length ≤ sizeLine then some (.own (xs ++ ys)) else none
  | .tup xs, .tup ys => if xs.length + ys.length ≤ sizeLine then some (.dat (.tup (xs ++ ys))) else none
  | _, _ => none
theorem opL {g : D → D → Option R} {f : Value → Value → Sem Value} (h : ∀ (pins : List (Addr × Obj)) (s : Shared) (σ : St) (H : Hp) (x y : V) (v u : Value) (Q : VK), Inv X pins σ H s → RelV x v → RelV y u →
    ∀ p Hd dx dy r, Same Hd H → PoolOk p Hd H → Rp c Hd x dx → Rp c Hd y dy → g dx dy = some r → (∀ v Hd' H', Go p Hd H Hd' H' → ResOk c p H Hd' H' v r → Q v H') → wpAny (model X.prog X.w) X.A (f v u) (EP X pins σ Q) X.xe s) : OpR X f (rG c g) := by
  intro pins s σ H x y v u Q I rx ry ⟨p, Hd, dx, dy, r, sm, pq, hx, hy, e, q⟩
  exact h pins s σ H x y v u Q I rx ry p Hd dx dy r sm pq hx hy e q
/-- a new list -/
theorem newOwn {p : Option Addr} {Hd H : Hp} (sm : Same Hd H) (pq : PoolOk p Hd H) {ds : List D} {vs : List V} {Q : VK} (q : ∀ v Hd' H', Go p Hd H Hd' H' → ResOk c p H Hd' H' v (.own ds) → Q v H') (rs : Rps c Hd vs ds) {a : Addr} (n : H a = none) : Q (.ref a) (upd H a (.lst vs)) :=
  q _ Hd _ (Go.newOwn sm pq n _) ⟨a, vs, rfl, n, sm.free n, (fun z => by
    obtain ⟨_, _, _, e, _⟩ := pq a z
    rw [n] at e
    cases e), upd_same, rs⟩
/-- a new tuple -/
theorem newTup {p : Option Addr} {Hd H : Hp} (sm : Same Hd H) (pq : PoolOk p Hd H) {ds : List D} {vs : List V} {Q : VK} (q : ∀ v Hd' H', Go p Hd H Hd' H' → ResOk c p H Hd' H' v (.dat (.tup ds)) → Q v H') (rs : Rps c Hd vs ds) {a : Addr} (n : H a = none) : Q (.ref a) (upd H a (.tup vs)) :=
  q _ (upd Hd a (.tup vs)) _ (Go.new sm pq n _) (Rp.tup (SqT.of upd_same) (rs.mono fun b o e => by
    rw [upd_ne (ne_of_none e (sm.free n))]
    exact e))
theorem opAdd (hK : X.K = c.K) : OpR X (binaryOp .Add) (rG c gAdd) := opL fun pins s σ H x y v u Q I rx ry p Hd dx dy r sm pq hx hy e q => by
  cases hx with
  | int i =>
    cases hy with
    | int j =>
      cases e
      exact op_add pins s σ H _ _ v u Q I rx ry ⟨i, j, rfl, rfl, q _ Hd H (Go.refl sm pq) (.int _)⟩
    | _ => cases e
  | str i =>
    cases hy with
    | str j =>
      simp only [gAdd] at e
      split at e
      · rename_i hl
        cases e
        exact op_add_str pins s σ H _ _ v u Q I rx ry ⟨i, j, rfl, rfl, hl, q _ Hd H (Go.refl sm pq) (.str _)⟩
      · cases e
    | _ => cases e
  | @lst a xs ds ha rs =>
    cases hy with
    | @lst b ys es hb ss =>
      simp only [gAdd] at e
      split at e
      · rename_i hl
        cases e
        cases rx
        cases ry
        obtain ⟨z, its, n, r1, e1⟩ := I.hok a _ (sm _ _ ha)
        obtain ⟨z2, its2, n2, r2, e2⟩ := I.hok b _ (sm _ _ hb)
        have l1 := r1.length
        have l2 := r2.length
        have l3 := rs.length
        have l4 := ss.length
        refine PySem.P.add_list e1 e2 ?_ (by rw [List.size_toArray, List.size_toArray]; omega)
        have ea : its.toArray ++ its2.toArray = (its ++ its2).toArray := by simp
        rw [ea]
        exact ⟨.ref _, _, I.lnew (t' := s.toks) (r1.append r2) (by rw [List.length_append]; omega), rfl, newOwn sm pq q (rs.append ss) I.fresh⟩
      · cases e
    | _ => cases e
  | @tup a xs ds ha rs =>
    cases hy with
    | @tup b ys es hb ss =>
      simp only [gAdd] at e
      split at e
      · rename_i hl
        cases e
        have l3 := rs.length
        have l4 := ss.length
        refine op_catA pins s σ H _ _ v u Q I rx ry ⟨a, b, xs, ys, rfl, rfl, by rw [hK]; exact same_t sm ha, by rw [hK]; exact same_t sm hb, by omega, fun z => ?_, fun _ z => ?_, fun _ _ t ht => ?_⟩
        · subst z
          cases rs
          exact q _ Hd H (Go.refl sm pq) (.tup hb ss)
        · subst z
          cases ss
          refine q _ Hd H (Go.refl sm pq) ?_
          show Rp c Hd _ (.tup (ds ++ []))
          rw [List.append_nil]
          exact .tup ha rs
        · exact newTup sm pq q (rs.append ss) ht
      · cases e
    | _ => cases e
  | _ => cases e
/-- ints -/
def gI (C : Int → Int → Bool) (f : Int → Int → D) : D → D → Option R
  | .int i, .int j => if C i j = true then some (.dat (f i j)) else none
  | _, _ => none
theorem opInt {f : Value → Value → Sem Value} {C : Int → Int → Bool} {P : Int → Int → Prop} {g : Int → Int → V} {d : Int → Int → D} (ho : OpR X f (rI P g)) (hC : ∀ i j, C i j = true → P i j) (hd : ∀ i j H, Rp c H (g i j) (d i j)) : OpR X f (rG c (gI C d)) :=
  opL fun pins s σ H x y v u Q I rx ry p Hd dx dy r sm pq hx hy e q => by
    cases hx with
    | int i =>
      cases hy with
      | int j =>
        simp only [gI] at e
        split at e
        · rename_i hc
          cases e
          exact ho pins s σ H _ _ v u Q I rx ry ⟨i, j, rfl, rfl, hC i j hc, q _ Hd H (Go.refl sm pq) (hd i j Hd)⟩
        · cases e
      | _ => cases e
    | _ => cases e
theorem opInt0 {f : Value → Value → Sem Value} {g : Int → Int → V} {d : Int → Int → D} (ho : OpR X f (rI0 g)) (hd : ∀ i j H, Rp c H (g i j) (d i j)) : OpR X f (rG c (gI (fun _ _ => true) d)) :=
  opInt (P := fun _ _ => True) (fun pins s σ H x y v u Q I rx ry h => ho pins s σ H x y v u Q I rx ry (let ⟨i, j, a, b, _, q⟩ := h; ⟨i, j, a, b, q⟩)) (fun _ _ _ => trivial) hd
def gSub := gI (fun _ _ => true) fun i j => .int (i - j)
def gMod := gI (fun _ j => decide (0 < j)) fun i j => .int (i % j)
def gDiv := gI (fun _ j => decide (0 < j ∧ j < 1073741824)) fun i j => .int (i / j)
def gLt := gI (fun _ _ => true) fun i j => .bl (decide (i < j))
def gLe := gI (fun _ _ => true) fun i j => .bl (decide (i ≤ j))
def gGt := gI (fun _ _ => true) fun i j => .bl (decide (j < i))
def gGe := gI (fun _ _ => true) fun i j => .bl (decide (j ≤ i))
theorem opSub : OpR X (binaryOp .Sub) (rG c gSub) := opInt0 op_sub fun _ _ _ => .int _
theorem opMod : OpR X (binaryOp .Mod) (rG c gMod) := opInt op_mod (fun i j h => show 0 < j from of_decide_eq_true h) fun _ _ _ => .int _
theorem opDiv : OpR X (binaryOp .FloorDiv) (rG c gDiv) := opInt op_fdiv (fun i j h => show 0 < j ∧ j < 1073741824 from of_decide_eq_true h) fun _ _ _ => .int _
theorem opLt : OpR X (compareOp .Lt) (rG c gLt) := opInt0 op_lt fun _ _ _ => .bl _
theorem opLe : OpR X (compareOp .LtE) (rG c gLe) := opInt0 op_le fun _ _ _ => .bl _
theorem opGt : OpR X (compareOp .Gt) (rG c gGt) := opInt0 op_gt fun _ _ _ => .bl _
theorem opGe : OpR X (compareOp .GtE) (rG c gGe) := opInt0 op_ge fun _ _ _ => .bl _
/-- * : ints, one small; a list and an int -/
def gMul : D → D → Option R
  | .int i, .int j => if (-(2 ^ 64) < i ∧ i < 2 ^ 64) ∨ (-(2 ^ 64) < j ∧ j < 2 ^ 64) then some (.dat (.int (i * j))) else none
  | .lst xs, .int k => if -(2 ^ 63) ≤ k ∧ k < 2 ^ 63 ∧ xs.length * k.toNat ≤ sizeLine then some (.own (List.replicate k.toNat xs).flatten) else none
  | _, _ => none

/-! ### == and in -/
mutual
def D.py : D → PyData
  | .non => .none
  | .bl b => .bool b
  | .int i => .int i
  | .str x => .str x
  | .lst xs => .list (D.pys xs)
  | .tup xs => .tuple (D.pys xs)
  | .ins _ _ => .none
def D.pys : List D → List PyData
  | [] => []
  | d :: ds => D.py d :: D.pys ds
end
mutual
/-- no instance within -/
def D.flat : D → Bool
  | .lst xs => D.flats xs
  | .tup xs => D.flats xs
  | .ins _ _ => false
  | _ => true
def D.flats : List D → Bool
  | [] => true
  | d :: ds => D.flat d && D.flats ds
end
mutual
theorem Rp.dp {H : Hp} : ∀ {v : V} {d : D}, Rp c H v d → d.flat = true → Dp c.K H v d.py
  | _, _, .non, _ => .non
  | _, _, .bl b, _ => .bl b
  | _, _, .int i, _ => .int i
  | _, _, .str x, _ => .str x
  | _, _, .lst h r, f => .lst (SqL.of h) (Rps.dp r (by simpa [D.flat] using f))
  | _, _, .tup h r, f => .tup h (Rps.dp r (by simpa [D.flat] using f))
  | _, _, .ins _ _, f => by simp [D.flat] at f
theorem Rps.dp {H : Hp} : ∀ {v : List V} {d : List D}, Rps c H v d → D.flats d = true → DpAll c.K H v (D.pys d)
  | _, _, .nil, _ => .nil
  | _, _, .cons a b, f => by
    have f' := f
    simp only [D.flats, Bool.and_eq_true] at f'
    exact .cons (Rp.dp a f'.1) (Rps.dp b f'.2)
end
/-- what == takes -/
def D.cmp (d : D) : Bool := d.flat && SeqAt.shaped d.py
def D.eqv (a b : D) : Bool := PyData.eqv a.py b.py
def gEq (a b : D) : Option R := if a.cmp && b.cmp then some (.dat (.bl (a.eqv b))) else none
def gNe (a b : D) : Option R := if a.cmp && b.cmp then some (.dat (.bl (!a.eqv b))) else none
theorem opEq (hK : X.K = c.K) (hu : X.A.units + 64 < cLine) : OpR X (compareOp .Eq) (rG c gEq) := opL fun pins s σ H x y v u Q I rx ry p Hd dx dy r sm pq hx hy e q => by
  unfold gEq at e
  split at e
  · rename_i hc
    cases e
    simp only [D.cmp, Bool.and_eq_true] at hc
    refine op_eqD hu pins s σ H _ _ v u Q I rx ry ⟨_, _, ?_, ?_, hc.1.2, hc.2.2, q _ Hd H (Go.refl sm pq) (.bl _)⟩
    · rw [hK]
      exact (hx.mono sm).dp hc.1.1
    · rw [hK]
      exact (hy.mono sm).dp hc.2.1
  · cases e
theorem opNe (hK : X.K = c.K) (hu : X.A.units + 64 < cLine) : OpR X (compareOp .NotEq) (rG c gNe) := opL fun pins s σ H x y v u Q I rx ry p Hd dx dy r sm pq hx hy e q => by
  unfold gNe at e
  split at e
  · rename_i hc
    cases e
    simp only [D.cmp, Bool.and_eq_true] at hc
    refine op_neD hu pins s σ H _ _ v u Q I rx ry ⟨_, _, ?_, ?_, hc.1.2, hc.2.2, q _ Hd H (Go.refl sm pq) (.bl _)⟩
    · rw [hK]
      exact (hx.mono sm).dp hc.1.1
    · rw [hK]
      exact (hy.mono sm).dp hc.2.1
  · cases e
/-- flat values, for in over a list or a tuple of such -/
def D.sc : D → Bool
  | .non => true
  | .bl _ => true
  | .int _ => true
  | .str _ => true
  | _ => false
def D.toV : D → V
  | .bl b => .bl b
  | .int i => .int i
  | .str x => .str x
  | _ => .non
theorem Rp.sc {H : Hp} {v : V} {d : D} (h : Rp c H v d) (s : d.sc = true) : v = d.toV ∧ flatV v = true := by
  cases h with
  | non => exact ⟨rfl, rfl⟩
  | bl _ => exact ⟨rfl, rfl⟩
  | int _ => exact ⟨rfl, rfl⟩
  | str _ => exact ⟨rfl, rfl⟩
  | lst _ _ => cases s
  | tup _ _ => cases s
  | ins _ _ => cases s
theorem Rps.sc {H : Hp} : ∀ {v : List V} {d : List D}, Rps c H v d → d.all D.sc = true → v = d.map D.toV ∧ v.all flatV = true
  | _, _, .nil, _ => ⟨rfl, rfl⟩
  | _, _, .cons a b, s => by
    simp only [List.all_cons, Bool.and_eq_true] at s
    obtain ⟨h1, h2⟩ := Rp.sc a s.1
    obtain ⟨h3, h4⟩ := Rps.sc b s.2
    refine ⟨?_, ?_⟩
    · rw [List.map_cons, ← h1, ← h3]
    · rw [List.all_cons, h2, h4]
      rfl
/-- in: over scalars in a list or tuple; deep in a list; a text in a text -/
def D.isIn (x : D) : D → Option Bool
  | .tup ys => if x.sc && ys.all D.sc then some (inV x.toV (ys.map D.toV)) else none
  | .lst ys => if x.sc && ys.all D.sc then some (inV x.toV (ys.map D.toV)) else if x.cmp && (D.lst ys).cmp then some (ys.any fun y => y.eqv x) else none
  | .str t => match x with
    | .str s => some (!(Builtin.Str.occurrences t s 0 t.length 1).isEmpty)
    | _ => none
  | _ => none
def gIn (neg : Bool) (x y : D) : Option R := (x.isIn y).map fun b => .dat (.bl (if neg then !b else b))
theorem pys_any (x : PyData) : ∀ ys : List D, ((D.pys ys).any fun z => PyData.eqv z x) = ys.any fun y => PyData.eqv y.py x
  | [] => by simp [D.pys]
  | y :: ys => by simp [D.pys, pys_any x ys]
end
end PD

set_option Elab.async false
set_option linter.all false
set_option maxRecDepth 100000
set_option maxHeartbeats 1000000
set_option autoImplicit false
namespace PD
open PySem L2
section
variable {c : Cw} {X : Cx} {W : WX}

theorem opMul : OpR X (binaryOp .Mult) (rG c gMul) := opL fun pins s σ H x y v u Q I rx ry p Hd dx dy r sm pq hx hy e q => by
  cases hx with
  | int i =>
    cases hy with
    | int j =>
      simp only [gMul] at e
      split at e
      · rename_i hc
        cases e
        exact op_mul pins s σ H _ _ v u Q I rx ry ⟨i, j, rfl, rfl, hc, q _ Hd H (Go.refl sm pq) (.int _)⟩
      · cases e
    | _ => cases e
  | @lst a xs ds ha rs =>
    cases hy with
    | int k =>
      simp only [gMul] at e
      split at e
      · rename_i hc
        cases e
        have l3 := rs.length
        · refine op_rep pins s σ H _ _ v u Q I rx ry ⟨a, k, xs, rfl, rfl, sm _ _ ha, hc.1, hc.2.1, by rw [l3]; exact hc.2.2, fun b hb => newOwn sm pq q ?_ hb⟩
          generalize k.toNat = n
          induction n with
          | zero => exact .nil
          | succ n ih =>
            rw [List.replicate_succ, List.replicate_succ, List.flatten_cons, List.flatten_cons]
            exact rs.append ih
      · cases e
    | _ => cases e
  | _ => cases e

theorem opIn' (hK : X.K = c.K) (hu : X.A.units + 65 < cLine) {neg : Bool} {op : CmpOp} (hop : (neg = false ∧ op = .In) ∨ (neg = true ∧ op = .NotIn)) : OpR X (compareOp op) (rG c (gIn neg)) := opL fun pins s σ H x y v u Q I rx ry p Hd dx dy r sm pq hx hy e q => by
  simp only [gIn, Option.map_eq_some_iff] at e
  obtain ⟨b, e, rfl⟩ := e
  have fin : ∀ b', b' = (if neg then !b else b) → Q (.bl b') H := fun b' hb => by
    subst hb
    exact q _ Hd H (Go.refl sm pq) (.bl _)
  have seq : ∀ (a : Addr) (xs : List V), y = .ref a → (SqL X.K H a xs ∨ SqT X.K H a xs) → flatV x = true → xs.all flatV = true → inV x xs = b → wpAny (model X.prog X.w) X.A (compareOp op v u) (EP X pins σ Q) X.xe s := fun a xs hy' hq h1 h2 h3 => by
    rcases hop with ⟨rfl, rfl⟩ | ⟨rfl, rfl⟩
    · exact op_in_seq pins s σ H x y v u Q I rx ry ⟨a, xs, hy', hq, h1, h2, fin _ (by rw [h3])⟩
    · exact op_notIn_seq pins s σ H x y v u Q I rx ry ⟨a, xs, hy', hq, h1, h2, fin _ (by rw [h3])⟩
  cases hy with
  | @tup a xs ds ha rs =>
    simp only [D.isIn] at e
    split at e
    · rename_i hc
      cases e
      simp only [Bool.and_eq_true] at hc
      obtain ⟨h1, h2⟩ := hx.sc hc.1
      obtain ⟨h3, h4⟩ := rs.sc hc.2
      exact seq a xs rfl (.inr (by rw [hK]; exact same_t sm ha)) h2 h4 (by rw [← h1, ← h3])
    · cases e
  | @lst a xs ds ha rs =>
    simp only [D.isIn] at e
    split at e
    · rename_i hc
      cases e
      simp only [Bool.and_eq_true] at hc
      obtain ⟨h1, h2⟩ := hx.sc hc.1
      obtain ⟨h3, h4⟩ := rs.sc hc.2
      exact seq a xs rfl (.inl (SqL.of (sm _ _ ha))) h2 h4 (by rw [← h1, ← h3])
    · split at e
      · rename_i hc
        cases e
        simp only [Bool.and_eq_true, D.cmp] at hc
        have f2 : D.flats ds = true := by simpa [D.flat] using hc.2.1
        have d1 : Dp X.K H x dx.py := by rw [hK]; exact (hx.mono sm).dp hc.1.1
        have d2 : Dp X.K H (.ref a) (.list (D.pys ds)) := by rw [hK]; exact .lst (SqL.of (sm _ _ ha)) ((rs.mono sm).dp f2)
        have s2 : SeqAt.shaped (.list (D.pys ds)) = true := by simpa [D.py] using hc.2.2
        rcases hop with ⟨rfl, rfl⟩ | ⟨rfl, rfl⟩
        · exact op_inD hu pins s σ H x _ v u Q I rx ry ⟨_, _, d1, d2, hc.1.2, s2, fin _ (by rw [pys_any]; rfl)⟩
        · exact op_notInD hu pins s σ H x _ v u Q I rx ry ⟨_, _, d1, d2, hc.1.2, s2, fin _ (by rw [pys_any]; rfl)⟩
      · cases e
  | str t =>
    cases hx with
    | str z =>
      cases e
      rcases hop with ⟨rfl, rfl⟩ | ⟨rfl, rfl⟩
      · exact op_in_str pins s σ H _ _ v u Q I rx ry ⟨z, t, rfl, rfl, fin _ rfl⟩
      · exact op_notin_str pins s σ H _ _ v u Q I rx ry ⟨z, t, rfl, rfl, fin _ rfl⟩
    | _ => cases e
  | _ => cases e
theorem opIn (hK : X.K = c.K) (hu : X.A.units + 65 < cLine) : OpR X (compareOp .In) (rG c (gIn false)) := opIn' hK hu (.inl ⟨rfl, rfl⟩)
theorem opNotIn (hK : X.K = c.K) (hu : X.A.units + 65 < cLine) : OpR X (compareOp .NotIn) (rG c (gIn true)) := opIn' hK hu (.inr ⟨rfl, rfl⟩)
/-- is None, is not None -/
def D.isNon : D → Bool
  | .non => true
  | _ => false
theorem Rp.isNon {H : Hp} {v : V} {d : D} (h : Rp c H v d) : decide (v = .non) = d.isNon := by
  cases h <;> simp [D.isNon]
def gIs (neg : Bool) : D → D → Option R
  | x, .non => some (.dat (.bl (if neg then !x.isNon else x.isNon)))
  | _, _ => none
theorem opIs : OpR X (compareOp .Is) (rG c (gIs false)) := opL fun pins s σ H x y v u Q I rx ry p Hd dx dy r sm pq hx hy e q => by
  cases hy with
  | non =>
    cases e
    exact op_isN pins s σ H _ _ v u Q I rx ry ⟨rfl, by rw [hx.isNon]; exact q _ Hd H (Go.refl sm pq) (.bl _)⟩
  | _ => cases e
theorem opIsNot : OpR X (compareOp .IsNot) (rG c (gIs true)) := opL fun pins s σ H x y v u Q I rx ry p Hd dx dy r sm pq hx hy e q => by
  cases hy with
  | non =>
    cases e
    exact op_notN pins s σ H _ _ v u Q I rx ry ⟨rfl, by rw [hx.isNon]; exact q _ Hd H (Go.refl sm pq) (.bl _)⟩
  | _ => cases e
/-! ### places -/
def gIx : D → D → Option R
  | .lst xs, .int i => (atI xs i).map .dat
  | .tup xs, .int i => (atI xs i).map .dat
  | .str z, .int i => if z.length ≤ sizeLine then (atI z.cps.toList i).map fun k => .dat (.str ⟨#[k]⟩) else none
  | _, _ => none
theorem Rps.atI {H : Hp} {vs : List V} {ds : List D} {i : Int} {d : D} (r : Rps c H vs ds) (h : atI ds i = some d) : ∃ v, atI vs i = some v ∧ Rp c H v d := by
  unfold L2.atI at h ⊢
  rw [r.length]
  cases e : ixN ds.length i with
  | none =>
    rw [e] at h
    cases h
  | some j =>
    rw [e] at h
    exact r.get h
theorem opIx (hK : X.K = c.K) : IxR X (rG c gIx) := by
  intro value slice pins s σ H x y v u Q I rx ry ⟨p, Hd, dx, dy, r, sm, pq, hx, hy, e, q⟩ hs
  cases hy with
  | int i =>
    cases hx with
    | @lst a xs ds ha rs =>
      simp only [gIx, Option.map_eq_some_iff] at e
      obtain ⟨d, e, rfl⟩ := e
      obtain ⟨w, h1, h2⟩ := rs.atI e
      exact ix_list value slice pins s σ H _ _ v u Q I rx ry ⟨a, xs, i, w, rfl, rfl, SqL.of (sm _ _ ha), h1, q _ Hd H (Go.refl sm pq) h2⟩ hs
    | @tup a xs ds ha rs =>
      simp only [gIx, Option.map_eq_some_iff] at e
      obtain ⟨d, e, rfl⟩ := e
      obtain ⟨w, h1, h2⟩ := rs.atI e
      exact ix_tup value slice pins s σ H _ _ v u Q I rx ry ⟨a, xs, i, w, rfl, rfl, by rw [hK]; exact same_t sm ha, h1, q _ Hd H (Go.refl sm pq) h2⟩ hs
    | str z =>
      simp only [gIx] at e
      split at e
      · rename_i hz
        simp only [Option.map_eq_some_iff] at e
        obtain ⟨d, e, rfl⟩ := e
        exact ix_str value slice pins s σ H _ _ v u Q I rx ry ⟨z, i, d, rfl, rfl, hz, e, q _ Hd H (Go.refl sm pq) (.str _)⟩ hs
      · cases e
    | _ => cases e
  | _ => cases hx <;> cases e
/-! ### slices -/
def cutD (xs : List D) (lo hi : Option Int) : List D := (xs.drop (HT.sIx xs.length 0 lo)).take (HT.sIx xs.length xs.length hi - HT.sIx xs.length 0 lo)
def gSl (lo hi : Option Int) : D → Option R
  | .lst xs => some (.own (cutD xs lo hi))
  | .tup xs => some (.dat (.tup (cutD xs lo hi)))
  | .str z => if z.length ≤ sizeLine then some (.dat (.str (Txt.slice z lo hi))) else none
  | _ => none
def rS (c : Cw) (g : Option Int → Option Int → D → Option R) : V → Option Int → Option Int → Hp → VK → Prop := fun x lo hi H Q => ∃ p Hd dx r, Same Hd H ∧ PoolOk p Hd H ∧ Rp c Hd x dx ∧ g lo hi dx = some r ∧ ∀ v Hd' H', Go p Hd H Hd' H' → ResOk c p H Hd' H' v r → Q v H'
theorem Rps.cut {H : Hp} {vs : List V} {ds : List D} {lo hi : Option Int} (r : Rps c H vs ds) : Rps c H (cutV vs lo hi) (cutD ds lo hi) := by
  unfold cutV cutD
  rw [r.length]
  exact (r.drop _).take _
theorem sl_list' {xs : List V} : SlR X (fun x lo hi H Q => ∃ a xs, x = .ref a ∧ H a = some (.lst xs) ∧ ∀ p, H p = none → Q (.ref p) (upd H p (.lst (cutV xs lo hi)))) := by
  intro pins s σ H x v vl vu lo hi sl Q I rx hs pl pu ⟨a, xs, e, h, q⟩
  exact sl_list pins s σ H x v vl vu lo hi sl Q I rx hs pl pu ⟨a, xs, e, SqL.of h, q⟩
theorem opSl (hK : X.K = c.K) : SlR X (rS c gSl) := by
  intro pins s σ H x v vl vu lo hi sl Q I rx hs pl pu ⟨p, Hd, dx, r, sm, pq, hx, e, q⟩
  cases hx with
  | @lst a xs ds ha rs =>
    cases e
    exact sl_list pins s σ H _ v vl vu lo hi sl Q I rx hs pl pu ⟨a, xs, rfl, SqL.of (sm _ _ ha), fun b hb => newOwn sm pq q rs.cut hb⟩
  | @tup a xs ds ha rs =>
    cases e
    refine sl_tupA pins s σ H _ v vl vu lo hi sl Q I rx hs pl pu ⟨a, xs, rfl, by rw [hK]; exact same_t sm ha, fun hw => ?_, fun _ b hb => newTup sm pq q rs.cut hb⟩
    refine q _ Hd H (Go.refl sm pq) (.tup ha ?_)
    have e1 : cutD ds lo hi = ds := by
      unfold cutD
      rw [← rs.length, hw.1, hw.2, List.drop_zero, Nat.sub_zero, rs.length, List.take_length]
    rw [e1]
    exact rs
  | str z =>
    simp only [gSl] at e
    split at e
    · rename_i hz
      cases e
      exact C8.sl_txt pins s σ H _ v vl vu lo hi sl Q I rx hs pl pu ⟨z, rfl, hz, q _ Hd H (Go.refl sm pq) (.str _)⟩
    · cases e
  | _ => cases e
end
end PD

set_option Elab.async false
set_option linter.all false
set_option maxRecDepth 100000
set_option maxHeartbeats 1000000
set_option autoImplicit false
namespace PD
open PySem L2
section
variable {c : Cw} {X : Cx} {W : WX}

/-! ### slices as expressions -/
def RO (c : Cw) (W : WX) (m : Ev → M (Option Int)) : TO := fun σ H Q => ∃ p Hd ev, Ok c p Hd H σ ev ∧ (m ev).All (Out (fun o => ∀ Hd' H', Go p Hd H Hd' H' → Q o H') fun x => ∀ cls d Hd' H', Go p Hd H Hd' H' → XOk c Hd' H' x cls d → W cls d σ H')
theorem PO.weak {e : Option Expr} {t t' : TO} (h : PO X e t') (k : ∀ σ H Q, t σ H Q → t' σ H Q) : PO X e t := ⟨fun pins s σ H Q I q => h.run pins s σ H Q I (k σ H Q q)⟩
abbrev DO (c : Cw) (X : Cx) (W : WX) (e : Option Expr) (m : Ev → M (Option Int)) : Prop := PO X e (RO c W m)
def mNo (_ : Ev) : M (Option Int) := M.ok none
def asInt : D → M Int
  | .int i => M.ok i
  | _ => .fail
def mYes (m : Ev → M R) (ev : Ev) : M (Option Int) := (mD m ev).bind fun d => (asInt d).bind fun i => M.ok (some i)
theorem do_none : DO c X W none mNo := PO.weak po_none fun σ H Q h => by
  obtain ⟨p, Hd, ev, k, h⟩ := h
  exact h Hd H k.refl
theorem do_some {e : Expr} {m : Ev → M R} (h : DE c X W e m) : DO c X W (some e) (mYes m) := PO.weak (po_some h) fun σ H Q h => by
  obtain ⟨p, Hd, ev, k, h⟩ := h
  have h1 := M.all_bind.mp h
  refine re_then k (h1.imp fun o q => ?_)
  cases o with
  | error x => exact q
  | ok d =>
    intro v Hd1 H1 g1 r1
    cases r1 with
    | int i => exact ⟨i, rfl, q Hd1 H1 g1⟩
    | _ => exact (show False from q).elim
def mSl (ma : Ev → M R) (ml mh : Ev → M (Option Int)) (ev : Ev) : M R := (mD ma ev).bind fun x => (ml ev).bind fun l => (mh ev).bind fun h => M.opt (gSl l h x)
theorem de_slice {e : Expr} {lo hi : Option Expr} {ma : Ev → M R} {ml mh : Ev → M (Option Int)} {pos p2 : Pos} (hK : X.K = c.K) (ha : DE c X W e ma) (hl : DO c X W lo ml) (hh : DO c X W hi mh) : DE c X W (.Subscript e (.Slice lo hi none p2) pos) (mSl ma ml mh) := by
  refine PE.weak (pe_slice (opSl hK) ha hl hh) fun σ H Q h => ?_
  obtain ⟨p, Hd, ev, k, h⟩ := h
  have h1 := M.all_bind.mp h
  refine re_then k (h1.imp fun o q => ?_)
  cases o with
  | error x => exact q
  | ok d =>
    intro v Hd1 H1 g1 r1
    have h2 := M.all_bind.mp (show Dr.All _ _ from q)
    refine ⟨p, Hd1, ev, k.go g1, h2.imp fun o q => ?_⟩
    cases o with
    | error x => exact xlater g1 q
    | ok l =>
      intro Hd2 H2 g2
      have h3 := M.all_bind.mp (show Dr.All _ _ from q)
      refine ⟨p, Hd2, ev, (k.go g1).go g2, h3.imp fun o q => ?_⟩
      cases o with
      | error x => exact xlater (g1.trans g2) q
      | ok u =>
        intro Hd3 H3 g3
        obtain ⟨r, e, q4⟩ := M.all_opt.mp (show Dr.All _ _ from q)
        exact ⟨p, Hd3, d, r, g3.s, g3.q, (r1.mono g2.d).mono g3.d, e, fun w Hd4 H4 g4 rk => q4 w Hd4 H4 (((g1.trans g2).trans g3).trans g4) (rk.back k.same ((g1.trans g2).trans g3))⟩

/-! ### tests -/
def RT (c : Cw) (W : WX) (m : Ev → M Bool) : TT := fun σ H Q => ∃ p Hd ev, Ok c p Hd H σ ev ∧ (m ev).All (Out (fun b => ∀ Hd' H', Go p Hd H Hd' H' → Q b H') fun x => ∀ cls d Hd' H', Go p Hd H Hd' H' → XOk c Hd' H' x cls d → W cls d σ H')
abbrev DT (c : Cw) (X : Cx) (W : WX) (e : Expr) (m : Ev → M Bool) : Prop := PT X e (RT c W m)
abbrev DW (c : Cw) (X : Cx) (W : WX) (e : Expr) (m : Ev → M Bool) : Prop := PW X e (RT c W m)
theorem PW.weak {e : Expr} {t t' : TT} (h : PW X e t') (k : ∀ σ H Q, t σ H Q → t' σ H Q) : PW X e t := ⟨fun wh pins s σ H Q I q => h.run wh pins s σ H Q I (k σ H Q q)⟩
def asBl : D → M Bool
  | .bl b => M.ok b
  | _ => .fail
def mB (m : Ev → M R) (ev : Ev) : M Bool := (mD m ev).bind asBl
theorem dt_val {e : Expr} {m : Ev → M R} (h : DE c X W e m) (he : ∀ whole, isTrue e X.env whole = (do let v ← whole; standAt e.pos; holding [v] (truthy v)) := by intro _; rfl) : DT c X W e (mB m) := PT.weak (pt_val h he) fun σ H Q h => by
  obtain ⟨p, Hd, ev, k, h⟩ := h
  have h1 := M.all_bind.mp h
  refine re_then k (h1.imp fun o q => ?_)
  cases o with
  | error x => exact q
  | ok d =>
    intro v Hd1 H1 g1 r1
    cases r1 with
    | bl b => exact ⟨b, rfl, q Hd1 H1 g1⟩
    | _ => exact (show False from q).elim
/-- a comparison as a test -/
theorem dt_cmp {op : CmpOp} {g : D → D → Option R} {a b : Expr} {ma mb : Ev → M R} {pos : Pos} (ho : OpR X (compareOp op) (rG c g)) (ha : DE c X W a ma) (hb : DE c X W b mb) (hm : behindInMarks op b = false := by rfl) : DT c X W (.Compare a [op] [b] pos) (mB (mOp g ma mb)) := PT.weak (pt_cmpR ho ha hb hm) fun σ H Q h => by
  refine re_op σ H _ ?_
  obtain ⟨p, Hd, ev, k, h⟩ := h
  have h1 := M.all_bind.mp (M.all_bind.mp h)
  refine ⟨p, Hd, ev, k, h1.imp fun o q => ?_⟩
  cases o with
  | error x => exact q
  | ok r =>
    intro v Hd1 H1 g1 r1
    obtain ⟨Hd2, g2, r2⟩ := res_dat g1 r1
    have q' : (asBl r.d).All _ := q
    generalize r.d = d at q' r2
    cases r2 with
    | bl b => exact ⟨b, rfl, q' Hd2 H1 g2⟩
    | _ => exact (show False from q').elim
def mAndT (a b : Ev → M Bool) (ev : Ev) : M Bool := (a ev).bind fun x => if x = true then b ev else M.ok false
def mOrT (a b : Ev → M Bool) (ev : Ev) : M Bool := (a ev).bind fun x => if x = true then M.ok true else b ev
def mNotT (a : Ev → M Bool) (ev : Ev) : M Bool := (a ev).bind fun x => M.ok !x
theorem rt_then {m : Ev → M Bool} {p : Option Addr} {Hd H : Hp} {σ : St} {ev : Ev} {Q : Bool → Hp → Prop} (k : Ok c p Hd H σ ev)
    (h : (m ev).All (Out (fun b => ∀ Hd1 H1, Go p Hd H Hd1 H1 → Q b H1) fun x => ∀ cls d Hd' H', Go p Hd H Hd' H' → XOk c Hd' H' x cls d → W cls d σ H')) : RT c W m σ H Q := ⟨p, Hd, ev, k, h⟩
theorem dw_and1 {a : Expr} {m : Ev → M Bool} {pos : Pos} (h : DT c X W a m) : DW c X W (.BoolOp .And [a] pos) m := pw_and1 h
theorem dw_or1 {a : Expr} {m : Ev → M Bool} {pos : Pos} (h : DT c X W a m) : DW c X W (.BoolOp .Or [a] pos) m := pw_or1 h
theorem dw_and {a b : Expr} {rest : List Expr} {ma mb : Ev → M Bool} {pos : Pos} (ha : DT c X W a ma) (hb : DW c X W (.BoolOp .And (b :: rest) pos) mb) : DW c X W (.BoolOp .And (a :: b :: rest) pos) (mAndT ma mb) := PW.weak (pw_and ha hb) fun σ H Q h => by
  obtain ⟨p, Hd, ev, k, h⟩ := h
  refine rt_then k ((M.all_bind.mp h).imp fun o q => ?_)
  cases o with
  | error x => exact q
  | ok b =>
    intro Hd1 H1 g1
    cases b with
    | true =>
      have q' : (mb ev).All _ := q
      refine ⟨p, Hd1, ev, k.go g1, q'.imp fun o q => ?_⟩
      cases o with
      | error x => exact xlater g1 q
      | ok b => exact fun Hd2 H2 g2 => q Hd2 H2 (g1.trans g2)
    | false => exact (show ∀ Hd' H', Go p Hd H Hd' H' → Q false H' from q) Hd1 H1 g1
theorem dw_or {a b : Expr} {rest : List Expr} {ma mb : Ev → M Bool} {pos : Pos} (ha : DT c X W a ma) (hb : DW c X W (.BoolOp .Or (b :: rest) pos) mb) : DW c X W (.BoolOp .Or (a :: b :: rest) pos) (mOrT ma mb) := PW.weak (pw_or ha hb) fun σ H Q h => by
  obtain ⟨p, Hd, ev, k, h⟩ := h
  refine rt_then k ((M.all_bind.mp h).imp fun o q => ?_)
  cases o with
  | error x => exact q
  | ok b =>
    intro Hd1 H1 g1
    cases b with
    | false =>
      have q' : (mb ev).All _ := q
      refine ⟨p, Hd1, ev, k.go g1, q'.imp fun o q => ?_⟩
      cases o with
      | error x => exact xlater g1 q
      | ok b => exact fun Hd2 H2 g2 => q Hd2 H2 (g1.trans g2)
    | true => exact (show ∀ Hd' H', Go p Hd H Hd' H' → Q true H' from q) Hd1 H1 g1
theorem dt_not {a : Expr} {m : Ev → M Bool} {pos : Pos} (h : DT c X W a m) : DT c X W (.UnaryOp .Not a pos) (mNotT m) := PT.weak (pt_not h) fun σ H Q h => by
  obtain ⟨p, Hd, ev, k, h⟩ := h
  refine rt_then k ((M.all_bind.mp h).imp fun o q => ?_)
  cases o with
  | error x => exact q
  | ok b => exact fun Hd1 H1 g1 => q Hd1 H1 g1
theorem dt_pw {a : Expr} {m : Ev → M Bool} (h : DW c X W a m) : DT c X W a m := h.pt
/-! ### and, or, not, if as values -/
def mAnd (a b : Ev → M R) (ev : Ev) : M R := (mD a ev).bind fun d => (asBl d).bind fun x => if x = true then b ev else M.ok (.dat (.bl false))
def mOr (a b : Ev → M R) (ev : Ev) : M R := (mD a ev).bind fun d => (asBl d).bind fun x => if x = true then M.ok (.dat (.bl true)) else b ev
def mNot (a : Ev → M R) (ev : Ev) : M R := (mD a ev).bind fun d => (asBl d).bind fun x => M.ok (.dat (.bl !x))
theorem re_later {m : Ev → M R} {p : Option Addr} {Hd H Hd1 H1 : Hp} {σ : St} {ev : Ev} {Q : VK} (k : Ok c p Hd H σ ev) (g1 : Go p Hd H Hd1 H1) (h : (m ev).All (Wants c W p Hd H σ Q)) : RE c W m σ H1 Q :=
  ⟨p, Hd1, ev, k.go g1, h.imp fun o q => by
    cases o with
    | error x => exact xlater g1 q
    | ok r => exact fun v Hd2 H2 g2 rk => q v Hd2 H2 (g1.trans g2) (rk.back k.same g1)⟩
theorem de_one {op : BoolOp} {a : Expr} {m : Ev → M R} {pos : Pos} (h : DE c X W a m) : DE c X W (.BoolOp op [a] pos) m := pe_one h
theorem de_and {a b : Expr} {rest : List Expr} {ma mb : Ev → M R} {pos : Pos} (ha : DE c X W a ma) (hb : DE c X W (.BoolOp .And (b :: rest) pos) mb) : DE c X W (.BoolOp .And (a :: b :: rest) pos) (mAnd ma mb) := PE.weak (pe_and ha hb) fun σ H Q h => by
  obtain ⟨p, Hd, ev, k, h⟩ := h
  refine re_then k ((M.all_bind.mp h).imp fun o q => ?_)
  cases o with
  | error x => exact q
  | ok d =>
    intro v Hd1 H1 g1 r1
    cases r1 with
    | bl b =>
      cases b with
      | true => exact ⟨true, rfl, re_later k g1 q⟩
      | false => exact ⟨false, rfl, (show ∀ v Hd' H', Go p Hd H Hd' H' → ResOk c p H Hd' H' v _ → Q v H' from q) _ Hd1 H1 g1 (.bl _)⟩
    | _ => exact (show False from q).elim
theorem de_or {a b : Expr} {rest : List Expr} {ma mb : Ev → M R} {pos : Pos} (ha : DE c X W a ma) (hb : DE c X W (.BoolOp .Or (b :: rest) pos) mb) : DE c X W (.BoolOp .Or (a :: b :: rest) pos) (mOr ma mb) := PE.weak (pe_or ha hb) fun σ H Q h => by
  obtain ⟨p, Hd, ev, k, h⟩ := h
  refine re_then k ((M.all_bind.mp h).imp fun o q => ?_)
  cases o with
  | error x => exact q
  | ok d =>
    intro v Hd1 H1 g1 r1
    cases r1 with
    | bl b =>
      cases b with
      | false => exact ⟨false, rfl, re_later k g1 q⟩
      | true => exact ⟨true, rfl, (show ∀ v Hd' H', Go p Hd H Hd' H' → ResOk c p H Hd' H' v _ → Q v H' from q) _ Hd1 H1 g1 (.bl _)⟩
    | _ => exact (show False from q).elim
theorem de_not {a : Expr} {ma : Ev → M R} {pos : Pos} (ha : DE c X W a ma) : DE c X W (.UnaryOp .Not a pos) (mNot ma) := PE.weak (pe_not ha) fun σ H Q h => by
  obtain ⟨p, Hd, ev, k, h⟩ := h
  refine re_then k ((M.all_bind.mp h).imp fun o q => ?_)
  cases o with
  | error x => exact q
  | ok d =>
    intro v Hd1 H1 g1 r1
    cases r1 with
    | bl b => exact ⟨b, rfl, (show ∀ v Hd' H', Go p Hd H Hd' H' → ResOk c p H Hd' H' v _ → Q v H' from q) _ Hd1 H1 g1 (.bl _)⟩
    | _ => exact (show False from q).elim
def mIf (t : Ev → M Bool) (a b : Ev → M R) (ev : Ev) : M R := (t ev).bind fun x => if x = true then a ev else b ev
theorem de_if {t a b : Expr} {mt : Ev → M Bool} {ma mb : Ev → M R} {pos : Pos} (ht : DT c X W t mt) (ha : DE c X W a ma) (hb : DE c X W b mb) : DE c X W (.IfExp t a b pos) (mIf mt ma mb) := PE.weak (pe_ifExp ht ha hb) fun σ H Q h => by
  obtain ⟨p, Hd, ev, k, h⟩ := h
  refine rt_then k ((M.all_bind.mp h).imp fun o q => ?_)
  cases o with
  | error x => exact q
  | ok b =>
    intro Hd1 H1 g1
    cases b with
    | true => exact re_later k g1 q
    | false => exact re_later k g1 q

/-! ### argument lists, displays -/
def RA (c : Cw) (W : WX) (m : Ev → M (List D)) : TA := fun σ H Q => ∃ p Hd ev, Ok c p Hd H σ ev ∧ (m ev).All (Out (fun ds => ∀ vs Hd' H', Go p Hd H Hd' H' → Rps c Hd' vs ds → Q vs H') fun x => ∀ cls d Hd' H', Go p Hd H Hd' H' → XOk c Hd' H' x cls d → W cls d σ H')
abbrev DA (c : Cw) (X : Cx) (W : WX) (es : List Expr) (m : Ev → M (List D)) : Prop := PA X es (RA c W m)
theorem PA.weak {e : List Expr} {t t' : TA} (h : PA X e t') (k : ∀ σ H Q, t σ H Q → t' σ H Q) : PA X e t := ⟨fun pos pins s σ H Q I q => h.run pos pins s σ H Q I (k σ H Q q)⟩
def mNil (_ : Ev) : M (List D) := M.ok []
def mCons (m : Ev → M R) (ms : Ev → M (List D)) (ev : Ev) : M (List D) := (mD m ev).bind fun d => (ms ev).bind fun ds => M.ok (d :: ds)
theorem da_nil : DA c X W [] mNil := PA.weak pa_nil fun σ H Q h => by
  obtain ⟨p, Hd, ev, k, h⟩ := h
  exact h [] Hd H k.refl .nil
theorem da_cons {e : Expr} {es : List Expr} {m : Ev → M R} {ms : Ev → M (List D)} (ha : DE c X W e m) (hr : DA c X W es ms) (hs : starEach (e :: es) X.env = (false, eval e X.env) :: starEach es X.env := by rfl) : DA c X W (e :: es) (mCons m ms) := PA.weak (pa_cons ha hr hs) fun σ H Q h => by
  obtain ⟨p, Hd, ev, k, h⟩ := h
  refine re_then k ((M.all_bind.mp h).imp fun o q => ?_)
  cases o with
  | error x => exact q
  | ok d =>
    intro v Hd1 H1 g1 r1
    have h2 := M.all_bind.mp (show Dr.All _ _ from q)
    refine ⟨p, Hd1, ev, k.go g1, h2.imp fun o q => ?_⟩
    cases o with
    | error x => exact xlater g1 q
    | ok ds => exact fun vs Hd2 H2 g2 r2 => (show ∀ vs Hd' H', Go p Hd H Hd' H' → Rps c Hd' vs (d :: ds) → Q vs H' from q) (v :: vs) Hd2 H2 (g1.trans g2) (.cons (r1.mono g2.d) r2)
def mTup (ms : Ev → M (List D)) (ev : Ev) : M R := (ms ev).bind fun ds => if ds.length ≤ sizeLine then M.ok (.dat (.tup ds)) else .fail
def mLst (ms : Ev → M (List D)) (ev : Ev) : M R := (ms ev).bind fun ds => if ds.length ≤ sizeLine then M.ok (.own ds) else .fail
theorem de_tup {es : List Expr} {x1} {ms : Ev → M (List D)} {pos : Pos} (h : DA c X W es ms) : DE c X W (.Tuple es x1 pos) (mTup ms) := PE.weak (pe_tup h) fun σ H Q h => by
  obtain ⟨p, Hd, ev, k, h⟩ := h
  refine ⟨p, Hd, ev, k, (M.all_bind.mp h).imp fun o q => ?_⟩
  cases o with
  | error x => exact q
  | ok ds =>
    intro vs Hd1 H1 g1 r1
    have q' : Dr.All (Wants c W p Hd H σ Q) (if ds.length ≤ sizeLine then M.ok (.dat (.tup ds)) else .fail) := q
    split at q'
    · rename_i hl
      exact ⟨by rw [r1.length]; exact hl, fun a ha => newTup (Q := Q) g1.s g1.q (fun v Hd2 H2 g2 rk => q' v Hd2 H2 (g1.trans g2) (rk.back k.same g1)) r1 ha⟩
    · exact q'.elim
theorem de_lst {es : List Expr} {ms : Ev → M (List D)} {pos : Pos} (h : DA c X W es ms) : DE c X W (.List es pos) (mLst ms) := PE.weak (pe_lst h) fun σ H Q h => by
  obtain ⟨p, Hd, ev, k, h⟩ := h
  refine ⟨p, Hd, ev, k, (M.all_bind.mp h).imp fun o q => ?_⟩
  cases o with
  | error x => exact q
  | ok ds =>
    intro vs Hd1 H1 g1 r1
    have q' : Dr.All (Wants c W p Hd H σ Q) (if ds.length ≤ sizeLine then M.ok (.own ds) else .fail) := q
    split at q'
    · rename_i hl
      exact ⟨by rw [r1.length]; exact hl, fun a ha => newOwn (Q := Q) g1.s g1.q (fun v Hd2 H2 g2 rk => q' v Hd2 H2 (g1.trans g2) (rk.back k.same g1)) r1 ha⟩
    · exact q'.elim

/-! ### built-in functions -/
def rC (c : Cw) (g : List D → Option R) : List V → Hp → VK → Prop := fun xs H Q => ∃ p Hd ds r, Same Hd H ∧ PoolOk p Hd H ∧ Rps c Hd xs ds ∧ g ds = some r ∧ ∀ v Hd' H', Go p Hd H Hd' H' → ResOk c p H Hd' H' v r → Q v H'
def mCall (g : List D → Option R) (ms : Ev → M (List D)) (ev : Ev) : M R := (ms ev).bind fun ds => M.opt (g ds)
theorem re_call {g : List D → Option R} {ms : Ev → M (List D)} : ∀ σ H Q, RE c W (mCall g ms) σ H Q → tCB (rC c g) (RA c W ms) σ H Q := by
  rintro σ H Q ⟨p, Hd, ev, k, h⟩
  refine ⟨p, Hd, ev, k, (M.all_bind.mp h).imp fun o q => ?_⟩
  cases o with
  | error x => exact q
  | ok ds =>
    intro vs Hd1 H1 g1 r1
    obtain ⟨r, e, q3⟩ := M.all_opt.mp (show Dr.All _ _ from q)
    exact ⟨p, Hd1, ds, r, g1.s, g1.q, r1, e, fun w Hd3 H3 g3 rk => q3 w Hd3 H3 (g1.trans g3) (rk.back k.same g1)⟩
theorem de_blt {id : String} {x : Str} {g : List D → Option R} {e : Expr} {es : List Expr} {ms : Ev → M (List D)} {pn pos : Pos} (hc : CallR X (.builtin id) (rC c g)) (hg : Gl X x) (hm : X.mg x = none) (hv : bootBuiltins x = some (.builtin id)) (ha : DA c X W (e :: es) ms)
    (hn : x ≠ "__name__" := by decide) (hdb : (x == ("__debug__" : Str)) = false := by decide) (he : starEach (e :: es) X.env = (false, eval e X.env) :: starEach es X.env := by rfl) (hpl : (backTo pos (starEach es X.env)).any (·.1) = false := by rfl) : DE c X W (.Call (.Name x pn) (e :: es) [] pos) (mCall g ms) :=
  PE.weak (pe_callB hc hg hm hv ha hn hdb he hpl) re_call
theorem de_bty {T : String} {x : Str} {g : List D → Option R} {e : Expr} {es : List Expr} {ms : Ev → M (List D)} {pn pos : Pos} (hc : CallR X (.type T) (rC c g)) (hg : Gl X x) (hm : X.mg x = none) (hv : bootBuiltins x = some (.type T)) (ha : DA c X W (e :: es) ms)
    (hn : x ≠ "__name__" := by decide) (hdb : (x == ("__debug__" : Str)) = false := by decide) (he : starEach (e :: es) X.env = (false, eval e X.env) :: starEach es X.env := by rfl) (hpl : (backTo pos (starEach es X.env)).any (·.1) = false := by rfl) : DE c X W (.Call (.Name x pn) (e :: es) [] pos) (mCall g ms) :=
  PE.weak (pe_callTy hc hg hm hv ha hn hdb he hpl) re_call
end
end PD

set_option Elab.async false
set_option linter.all false
set_option maxRecDepth 100000
set_option maxHeartbeats 1000000
set_option autoImplicit false
namespace PD
open PySem L2
section
variable {c : Cw} {X : Cx} {W : WX}

def gLen : List D → Option R
  | [.lst xs] => some (.dat (.int xs.length))
  | [.tup xs] => some (.dat (.int xs.length))
  | [.str z] => if z.length ≤ sizeLine then some (.dat (.int z.length)) else none
  | _ => none
def gInt : List D → Option R
  | [.int i] => some (.dat (.int i))
  | [.bl b] => some (.dat (.int (if b then 1 else 0)))
  | _ => none
def gMax : List D → Option R
  | [.int i, .int j] => some (.dat (.int (if j > i then j else i)))
  | _ => none
def gMin : List D → Option R
  | [.int i, .int j] => some (.dat (.int (if j < i then j else i)))
  | _ => none
def gList : List D → Option R
  | [.lst xs] => some (.own xs)
  | [.tup xs] => some (.own xs)
  | _ => none
def gTuple : List D → Option R
  | [.lst xs] => some (.dat (.tup xs))
  | [.tup xs] => some (.dat (.tup xs))
  | _ => none
theorem cR {g : List D → Option R} {f : Value} (h : ∀ (pins : List (Addr × Obj)) (s : Shared) (σ : St) (H : Hp) (xs : List V) (us : List Value) (Q : VK), Inv X pins σ H s → Vals xs us →
    ∀ p Hd ds r, Same Hd H → PoolOk p Hd H → Rps c Hd xs ds → g ds = some r → (∀ v Hd' H', Go p Hd H Hd' H' → ResOk c p H Hd' H' v r → Q v H') → wpAny (model X.prog X.w) X.A (call f us) (EP X pins σ Q) X.xe s) : CallR X f (rC c g) := by
  intro pins s σ H xs us Q I rs ⟨p, Hd, ds, r, sm, pq, hx, e, q⟩
  exact h pins s σ H xs us Q I rs p Hd ds r sm pq hx e q
theorem callLen (hK : X.K = c.K) : CallR X (.builtin "len") (rC c gLen) := cR fun pins s σ H xs us Q I rs p Hd ds r sm pq hx e q => by
  match ds, hx, e with
  | [.lst ys], .cons (.lst ha r1) .nil, e =>
    cases e
    exact call_len_seq pins s σ H _ us Q I rs ⟨_, _, rfl, .inl (SqL.of (sm _ _ ha)), by rw [r1.length]; exact q _ Hd H (Go.refl sm pq) (.int _)⟩
  | [.tup ys], .cons (.tup ha r1) .nil, e =>
    cases e
    exact call_len_seq pins s σ H _ us Q I rs ⟨_, _, rfl, .inr (by rw [hK]; exact same_t sm ha), by rw [r1.length]; exact q _ Hd H (Go.refl sm pq) (.int _)⟩
  | [.str z], .cons (.str _) .nil, e =>
    simp only [gLen] at e
    split at e
    · rename_i hz
      cases e
      exact call_len_str pins s σ H _ us Q I rs ⟨z, rfl, hz, q _ Hd H (Go.refl sm pq) (.int _)⟩
    · cases e
theorem callInt : CallR X (.type "int") (rC c gInt) := cR fun pins s σ H xs us Q I rs p Hd ds r sm pq hx e q => by
  match ds, hx, e with
  | [.int i], .cons (.int _) .nil, e =>
    cases e
    exact call_int1 pins s σ H _ us Q I rs (.inl ⟨i, rfl, q _ Hd H (Go.refl sm pq) (.int _)⟩)
  | [.bl b], .cons (.bl _) .nil, e =>
    cases e
    exact call_int1 pins s σ H _ us Q I rs (.inr ⟨b, rfl, q _ Hd H (Go.refl sm pq) (.int _)⟩)
theorem callMax (hc : X.calm = true) : CallR X (.builtin "max") (rC c gMax) := cR fun pins s σ H xs us Q I rs p Hd ds r sm pq hx e q => by
  match ds, hx, e with
  | [.int i, .int j], .cons (.int _) (.cons (.int _) .nil), e =>
    cases e
    exact call_max2 hc pins s σ H _ us Q I rs ⟨i, j, rfl, q _ Hd H (Go.refl sm pq) (.int _)⟩
theorem callMin (hc : X.calm = true) : CallR X (.builtin "min") (rC c gMin) := cR fun pins s σ H xs us Q I rs p Hd ds r sm pq hx e q => by
  match ds, hx, e with
  | [.int i, .int j], .cons (.int _) (.cons (.int _) .nil), e =>
    cases e
    exact call_min2 hc pins s σ H _ us Q I rs ⟨i, j, rfl, q _ Hd H (Go.refl sm pq) (.int _)⟩
theorem callList (hK : X.K = c.K) : CallR X (.type "list") (rC c gList) := cR fun pins s σ H xs us Q I rs p Hd ds r sm pq hx e q => by
  match ds, hx, e with
  | [.lst ys], .cons (.lst ha r1) .nil, e =>
    cases e
    exact call_list_of pins s σ H _ us Q I rs ⟨_, _, rfl, .inl (SqL.of (sm _ _ ha)), fun l hl => newOwn sm pq q r1 hl⟩
  | [.tup ys], .cons (.tup ha r1) .nil, e =>
    cases e
    exact call_list_of pins s σ H _ us Q I rs ⟨_, _, rfl, .inr (by rw [hK]; exact same_t sm ha), fun l hl => newOwn sm pq q r1 hl⟩
theorem callTuple (hK : X.K = c.K) : CallR X (.type "tuple") (rC c gTuple) := cR fun pins s σ H xs us Q I rs p Hd ds r sm pq hx e q => by
  match ds, hx, e with
  | [.lst ys], .cons (.lst ha r1) .nil, e =>
    cases e
    exact call_tuple_of pins s σ H _ us Q I rs ⟨_, _, rfl, .inl ⟨SqL.of (sm _ _ ha), fun l hl => newTup sm pq q r1 hl⟩⟩
  | [.tup ys], .cons (.tup ha r1) .nil, e =>
    cases e
    exact call_tuple_of pins s σ H _ us Q I rs ⟨_, _, rfl, .inr ⟨by rw [hK]; exact same_t sm ha, q _ Hd H (Go.refl sm pq) (.tup ha r1)⟩⟩

/-! ### isinstance(x, T), T a built-in type -/
def D.ty : D → String
  | .non => "NoneType"
  | .bl _ => "bool"
  | .int _ => "int"
  | .str _ => "str"
  | .lst _ => "list"
  | .tup _ => "tuple"
  | .ins _ _ => ""
def D.isI : D → Bool
  | .ins _ _ => true
  | _ => false
def gIsT (T : String) (d : D) : Option R := if d.isI then none else (kitB d.ty T).map fun b => .dat (.bl b)
def mIsT (T : String) (m : Ev → M R) (ev : Ev) : M R := (mD m ev).bind fun d => M.opt (gIsT T d)
theorem Rp.tyX {H : Hp} {v : V} {d : D} (h : Rp c H v d) (n : d.isI = false) : TyX c.K H v (.type d.ty) := by
  cases h with
  | non => exact .base .non
  | bl b => exact .base (.bl b)
  | int b => exact .base (.int b)
  | str b => exact .base (.str b)
  | lst h r => exact .base (.lst h)
  | tup h r =>
    rcases h with (h | ⟨o, h⟩) | ⟨o, its, n, h1, h2, _⟩
    · exact .base (.tup h)
    · exact .fTuple h
    · exact .kTuple h1 h2
  | ins h r => cases n
theorem de_isT {T : String} {x : Str} {e : Expr} {m : Ev → M R} {pn pos pt : Pos} (hK : X.K = c.K) (he : DE c X W e m) (hg : Gl X "isinstance") (hm : X.mg "isinstance" = none) (hgT : Gl X x) (hmT : X.mg x = none) (hvT : bootBuiltins x = some (.type T))
    (hnT : x ≠ "__name__" := by decide) (hdT : (x == ("__debug__" : Str)) = false := by decide) (hs : starEach [e, .Name x pt] X.env = (false, eval e X.env) :: starEach [.Name x pt] X.env := by rfl) : DE c X W (.Call (.Name "isinstance" pn) [e, .Name x pt] [] pos) (mIsT T m) := by
  refine PE.weak (pe_callB call_isi hg hm (by decide +kernel) (pa_cons he (pa_cons (pe_bltn hgT hmT hvT (v := .ty T) rfl hnT hdT) pa_nil) hs) (he := hs)) fun σ H Q h => ?_
  obtain ⟨p, Hd, ev, k, h⟩ := h
  refine re_then k ((M.all_bind.mp h).imp fun o q => ?_)
  cases o with
  | error x => exact q
  | ok d =>
    intro v Hd1 H1 g1 r1
    obtain ⟨r, e, q3⟩ := M.all_opt.mp (show Dr.All _ _ from q)
    unfold gIsT at e
    split at e
    · cases e
    · rename_i hi
      simp only [Option.map_eq_some_iff] at e
      obtain ⟨b, e, rfl⟩ := e
      refine ⟨v, .ty T, .type d.ty, .type T, b, rfl, .ty T, ?_, kit_ty e, q3 _ Hd1 H1 g1 (.bl _)⟩
      rw [hK]
      exact (r1.mono g1.s).tyX (by simpa using hi)

/-! ### own functions -/
inductive Arg where
  | dat (d : D) | pool | scr (ns : List Int)
def ArgOk (c : Cw) (p : Option Addr) (Hd : Hp) (v : V) : Arg → Prop
  | .dat d => Rp c Hd v d
  | .pool => ∃ a, p = some a ∧ v = .ref a
  | .scr ns => ∃ a, v = .ref a ∧ SqL c.K Hd a (ns.map V.int) ∧ ns.length ≤ 63
theorem ArgOk.mono {p : Option Addr} {Hd Hd' : Hp} {v : V} {a : Arg} (e : Same Hd Hd') (h : ArgOk c p Hd v a) : ArgOk c p Hd' v a := by
  cases a with
  | dat d => exact Rp.mono e h
  | pool => exact h
  | scr ns =>
    obtain ⟨a, h1, h3, h4⟩ := h
    exact ⟨a, h1, e.seq h3, h4⟩
abbrev ArgsOk (c : Cw) (p : Option Addr) (Hd : Hp) : List V → List Arg → Prop := Paired (ArgOk c p Hd)
theorem ArgsOk.mono {p : Option Addr} {Hd Hd' : Hp} (e : Same Hd Hd') : ∀ {vs : List V} {as : List Arg}, ArgsOk c p Hd vs as → ArgsOk c p Hd' vs as
  | _, _, .nil => .nil
  | _, _, .cons a b => .cons (ArgOk.mono e a) (ArgsOk.mono e b)
def RG (c : Cw) (W : WX) (m : Ev → M (List Arg)) : TA := fun σ H Q => ∃ p Hd ev, Ok c p Hd H σ ev ∧ (m ev).All (Out (fun as => ∀ vs Hd' H', Go p Hd H Hd' H' → ArgsOk c p Hd' vs as → Q vs H') fun x => ∀ cls d Hd' H', Go p Hd H Hd' H' → XOk c Hd' H' x cls d → W cls d σ H')

abbrev DG (c : Cw) (X : Cx) (W : WX) (es : List Expr) (m : Ev → M (List Arg)) : Prop := PA X es (RG c W m)
def gNil' (_ : Ev) : M (List Arg) := M.ok []
def gDat (m : Ev → M R) (ms : Ev → M (List Arg)) (ev : Ev) : M (List Arg) := (mD m ev).bind fun d => (ms ev).bind fun ds => M.ok (.dat d :: ds)
/-- a slot handed on as it is: the pool, the script -/
def slArg : Option (Option Sl) → M Arg
  | some (some .pool) => M.ok .pool
  | some (some (.scr ns)) => M.ok (.scr ns)
  | _ => .fail
def gSlot (i : Nat) (ms : Ev → M (List Arg)) (ev : Ev) : M (List Arg) := (slArg ev[i]?).bind fun a => (ms ev).bind fun ds => M.ok (a :: ds)
theorem dg_nil : DG c X W [] gNil' := PA.weak pa_nil fun σ H Q h => by
  obtain ⟨p, Hd, ev, k, h⟩ := h
  exact h [] Hd H k.refl .nil
theorem rg_rest {ms : Ev → M (List Arg)} {p : Option Addr} {Hd H Hd1 H1 : Hp} {σ : St} {ev : Ev} {a : Arg} {v : V} {Q : List V → Hp → Prop} (k : Ok c p Hd H σ ev) (g1 : Go p Hd H Hd1 H1) (r1 : ArgOk c p Hd1 v a)
    (q : ((ms ev).bind fun ds => M.ok (a :: ds)).All (Out (fun as => ∀ vs Hd' H', Go p Hd H Hd' H' → ArgsOk c p Hd' vs as → Q vs H') fun x => ∀ cls d Hd' H', Go p Hd H Hd' H' → XOk c Hd' H' x cls d → W cls d σ H')) :
    RG c W ms σ H1 (fun vs H2 => Q (v :: vs) H2) := by
  refine ⟨p, Hd1, ev, k.go g1, (M.all_bind.mp q).imp fun o q => ?_⟩
  cases o with
  | error x => exact xlater g1 q
  | ok ds => exact fun vs Hd2 H2 g2 r2 => (show ∀ vs Hd' H', Go p Hd H Hd' H' → ArgsOk c p Hd' vs (a :: ds) → Q vs H' from q) (v :: vs) Hd2 H2 (g1.trans g2) (.cons (r1.mono g2.d) r2)
theorem dg_dat {e : Expr} {es : List Expr} {m : Ev → M R} {ms : Ev → M (List Arg)} (ha : DE c X W e m) (hr : DG c X W es ms) (hs : starEach (e :: es) X.env = (false, eval e X.env) :: starEach es X.env := by rfl) : DG c X W (e :: es) (gDat m ms) := PA.weak (pa_cons ha hr hs) fun σ H Q h => by
  obtain ⟨p, Hd, ev, k, h⟩ := h
  refine re_then k ((M.all_bind.mp h).imp fun o q => ?_)
  cases o with
  | error x => exact q
  | ok d => exact fun v Hd1 H1 g1 r1 => rg_rest (a := .dat d) k g1 r1 q
theorem dg_slot (i : Nat) {x : Str} {pos : Pos} {es : List Expr} {ms : Ev → M (List Arg)} (hr : DG c X W es ms) (hN : X.N[i]? = some x := by rfl) (hv : Vis X.env.scope x := by first | exact Or.inl rfl | exact Or.inr (Or.inl rfl) | exact Or.inr (Or.inr rfl))
    (hd : (x == ("__debug__" : Str)) = false := by decide) (hcd : (x == ("__classdict__" : Str)) = false := by decide) (hs : starEach (.Name x pos :: es) X.env = (false, eval (.Name x pos) X.env) :: starEach es X.env := by rfl) : DG c X W (.Name x pos :: es) (gSlot i ms) := PA.weak (pa_cons (pe_var hN hv hd hcd) hr hs) fun σ H Q h => by
  obtain ⟨p, Hd, ev, k, h⟩ := h
  unfold gSlot slArg at h
  split at h
  · rename_i e
    obtain ⟨v, e1, e2⟩ := k.sl i _ e
    exact ⟨v, e1, rg_rest (a := .pool) k k.refl e2 h⟩
  · rename_i ns e
    obtain ⟨v, e1, e2⟩ := k.sl i _ e
    exact ⟨v, e1, rg_rest (a := .scr ns) k k.refl e2 h⟩
  · exact h.elim
/-- what a def promises: its mirror F, of n arguments -/
def spD (c : Cw) (n : Nat) (F : List Arg → M R) : Sp := fun vs H Q E => ∃ p Hd as, Same Hd H ∧ PoolOk p Hd H ∧ ArgsOk c p Hd vs as ∧ as.length = n ∧
  (F as).All (Out (fun r => ∀ v Hd' H', Go p Hd H Hd' H' → ResOk c p H Hd' H' v r → Q v H') fun x => ∀ cls d Hd' H', Go p Hd H Hd' H' → XOk c Hd' H' x cls d → E cls d H')
theorem ArgsOk.length {p : Option Addr} {Hd : Hp} {vs : List V} {as : List Arg} (h : ArgsOk c p Hd vs as) : vs.length = as.length := Paired.length h
theorem spD_len {n : Nat} {F : List Arg → M R} (vs : List V) (H : Hp) (Q : VK) (E : XK) (h : spD c n F vs H Q E) : vs.length = n := by
  obtain ⟨p, Hd, as, _, _, h1, h2, _⟩ := h
  rw [h1.length, h2]
def mUser (n : Nat) (F : List Arg → M R) (ms : Ev → M (List Arg)) (ev : Ev) : M R := (ms ev).bind fun as => if as.length = n then F as else .fail
theorem re_user {n : Nat} {F : List Arg → M R} {ms : Ev → M (List Arg)} : ∀ σ H Q, RE c W (mUser n F ms) σ H Q → tCallS (spD c n F) (WE W) (RG c W ms) σ H Q := by
  rintro σ H Q ⟨p, Hd, ev, k, h⟩
  refine ⟨p, Hd, ev, k, (M.all_bind.mp h).imp fun o q => ?_⟩
  cases o with
  | error x => exact q
  | ok as =>
    intro vs Hd1 H1 g1 r1
    have q' : Dr.All (Wants c W p Hd H σ Q) (if as.length = n then F as else .fail) := q
    split at q'
    · rename_i hl
      refine ⟨p, Hd1, as, g1.s, g1.q, r1, hl, q'.imp fun o q => ?_⟩
      cases o with
      | error x => exact xlater g1 q
      | ok r => exact fun v Hd2 H2 g2 rk => q v Hd2 H2 (g1.trans g2) (rk.back k.same g1)
    · exact q'.elim
theorem de_call {k : Nat} {f : Addr} {fd : FuncData} {ps : List Str} {n : Nat} {F : List Arg → M R} {x : Str} {e : Expr} {es : List Expr} {ms : Ev → M (List Arg)} {pn pos : Pos} (G : FnOk X.prog X.w X.K X.mg X.base (L2.CX X.prog X.w) k f fd ps (spD c n F)) (hr : Room k X.A) (hg : Gl X x) (hm : X.mg x = some (.ref f))
    (hk : PySem.W.keepIn X.K (.ref f) = true) (hb : Binds X.K fd ps []) (tk : Takes X W) (ha : DG c X W (e :: es) ms) (hdb : (x == ("__debug__" : Str)) = false := by decide)
    (he : starEach (e :: es) X.env = (false, eval e X.env) :: starEach es X.env := by rfl) (hpl : (backTo pos (starEach es X.env)).any (·.1) = false := by rfl) : DE c X W (.Call (.Name x pn) (e :: es) [] pos) (mUser n F ms) :=
  PE.weak (pe_callS G hr hg hm hk hb (fun σ => passAt tk σ) ha hdb he hpl) re_user
theorem de_call0 {k : Nat} {f : Addr} {fd : FuncData} {ps : List Str} {F : List Arg → M R} {x : Str} {pn pos : Pos} (G : FnOk X.prog X.w X.K X.mg X.base (L2.CX X.prog X.w) k f fd ps (spD c 0 F)) (hr : Room k X.A) (hg : Gl X x) (hm : X.mg x = some (.ref f))
    (hk : PySem.W.keepIn X.K (.ref f) = true) (hb : Binds X.K fd ps []) (tk : Takes X W) (hdb : (x == ("__debug__" : Str)) = false := by decide) : DE c X W (.Call (.Name x pn) [] [] pos) (mUser 0 F gNil') := by
  refine ⟨fun pins s σ H Q I h => ?_⟩
  refine wpAny_Call_Name_kw (ld_glob I hg hm ?_ hdb)
  have h2 := re_user σ H Q h
  obtain ⟨p, Hd, ev, k, h3⟩ := h2
  exact PySem.W.callWith_K0 I.kIn hk (run_fnS (us := []) (E := WE W) G hr hb (passAt tk σ) I .nil (h3 [] Hd H k.refl .nil))
end
end PD

set_option Elab.async false
set_option linter.all false
set_option maxRecDepth 100000
set_option maxHeartbeats 1000000
set_option autoImplicit false
namespace PD
open PySem L2

/-! ### what is walked -/
def Walks (c : Cw) (Hd : Hp) (J : It) (ds : List D) : Prop := ∀ (p : Option Addr) Hd2 H2, Same Hd Hd2 → Same Hd2 H2 → PoolOk p Hd2 H2 →
  (∀ (i : Nat) (d : D), ds[i]? = some d → J.go i H2 ∧ ∀ x H3, J.yld i H2 x H3 → ∃ Hd3, Go p Hd2 H2 Hd3 H3 ∧ Rp c Hd3 x d) ∧ J.stop ds.length H2
def RI (c : Cw) (W : WX) (m : Ev → M (List D)) : TI := fun σ H R => ∃ p Hd ev, Ok c p Hd H σ ev ∧ (m ev).All (Out (fun ds => ∀ J Hd' H', Go p Hd H Hd' H' → Walks c Hd' J ds → R J H') fun x => ∀ cls d Hd' H', Go p Hd H Hd' H' → XOk c Hd' H' x cls d → W cls d σ H')
section
variable {c : Cw} {X : Cx} {W : WX}
theorem PI.weak {tg e : Expr} {t t' : TI} (h : PI X tg e t') (k : ∀ σ H Q, t σ H Q → t' σ H Q) : PI X tg e t := ⟨fun pins s σ H Q I q => h.run pins s σ H Q I (k σ H Q q)⟩
abbrev DI (c : Cw) (X : Cx) (W : WX) (tg e : Expr) (m : Ev → M (List D)) : Prop := PI X tg e (RI c W m)
theorem walks_list {Hd : Hp} {a : Addr} {vs : List V} {ds : List D} (ha : Hd a = some (.lst vs)) (r : Rps c Hd vs ds) : Walks c Hd (Itl c.K a) ds := by
  intro p Hd2 H2 s1 s2 pq
  have e : SqL c.K H2 a vs := SqL.of (s2 _ _ (s1 _ _ ha))
  refine ⟨fun i d hd => ?_, vs, e, by rw [r.length]; exact Nat.le_refl _⟩
  obtain ⟨v, h1, h2⟩ := r.get hd
  refine ⟨⟨vs, v, e, h1⟩, fun x H3 hy => ?_⟩
  obtain ⟨rfl, h3⟩ := hy
  have := h3 vs e
  rw [h1] at this
  cases this
  exact ⟨Hd2, Go.refl s2 pq, h2.mono s1⟩
theorem walks_tup {Hd : Hp} {a : Addr} {vs : List V} {ds : List D} (ha : SqT c.K Hd a vs) (r : Rps c Hd vs ds) : Walks c Hd (Itt c.K a) ds := by
  intro p Hd2 H2 s1 s2 pq
  have e : SqT c.K H2 a vs := same_t s2 (same_t s1 ha)
  refine ⟨fun i d hd => ?_, vs, e, by rw [r.length]; exact Nat.le_refl _⟩
  obtain ⟨v, h1, h2⟩ := r.get hd
  refine ⟨⟨vs, v, e, h1⟩, fun x H3 hy => ?_⟩
  obtain ⟨rfl, h3⟩ := hy
  have := h3 vs e
  rw [h1] at this
  cases this
  exact ⟨Hd2, Go.refl s2 pq, h2.mono s1⟩
def natsD (n : Nat) : List D := (List.range n).map fun (k : Nat) => D.int (k : Int)
theorem walks_range {Hd : Hp} {n : Nat} : Walks c Hd (Itr 0 n) (natsD n) := by
  intro p Hd2 H2 s1 s2 pq
  refine ⟨fun i d hd => ?_, by show n ≤ (natsD n).length; simp [natsD]⟩
  have hi : i < n := by
    have := (List.getElem?_eq_some_iff.mp hd).1
    simpa [natsD] using this
  have hd' : d = .int (i : Int) := by
    simp [natsD, hi] at hd
    exact hd.symm
  subst hd'
  refine ⟨hi, fun x H3 hy => ?_⟩
  obtain ⟨rfl, rfl⟩ := hy
  refine ⟨Hd2, Go.refl s2 pq, ?_⟩
  rw [Int.zero_add]
  exact .int _
def asSeq : D → M (List D)
  | .lst ds => M.ok ds
  | .tup ds => M.ok ds
  | _ => .fail
def mIt (m : Ev → M R) (ev : Ev) : M (List D) := (mD m ev).bind asSeq
theorem di_seq {tg e : Expr} {m : Ev → M R} (hK : X.K = c.K) (he : DE c X W e m) : DI c X W tg e (mIt m) := by
  refine ⟨fun pins s σ H R I h => ?_⟩
  obtain ⟨p, Hd, ev, k, h⟩ := h
  have h2 : RE c W m σ H (fun v H1 => (∃ a, v = .ref a ∧ (∃ xs, SqL X.K H1 a xs) ∧ R (Itl X.K a) H1) ∨ ∃ a, v = .ref a ∧ (∃ xs, SqT X.K H1 a xs) ∧ R (Itt X.K a) H1) := by
    refine re_then k ((M.all_bind.mp h).imp fun o q => ?_)
    cases o with
    | error x => exact q
    | ok d =>
      intro v Hd1 H1 g1 r1
      cases r1 with
      | lst ha rs => exact .inl ⟨_, rfl, ⟨_, SqL.of (g1.s _ _ ha)⟩, by rw [hK]; exact q _ Hd1 H1 g1 (walks_list ha rs)⟩
      | tup ha rs => exact .inr ⟨_, rfl, ⟨_, by rw [hK]; exact same_t g1.s ha⟩, by rw [hK]; exact q _ Hd1 H1 g1 (walks_tup ha rs)⟩
      | _ => exact (show False from q).elim
  refine thn (he.run pins s σ H _ I h2) fun v s1 ⟨x, H1, I1, r1, q1⟩ => ?_
  rcases q1 with ⟨a, e, ⟨xs, hq⟩, q⟩ | ⟨a, e, ⟨xs, hq⟩, q⟩
  · subst e
    cases r1
    obtain ⟨its, rv, p, hz⟩ := I1.list hq
    refine wpAny_pyIter_list p.isList ?_
    refine ⟨s1.heap.objs.size, [s1.heap.objs.size], _, _, H1, rfl, I1.kept (t' := s1.toks) fun b o e => Heap.get?_push_of_some _ e, turn_list a _, ⟨_, Heap.get?_push_size _ rfl, rfl, rfl⟩, fun b hb => ?_, q⟩
    have e : b = s1.heap.objs.size := by simpa using hb
    subst e
    exact I1.fpOk (Nat.le_refl _) (I1.hok.fresh (Nat.le_refl _))
  · subst e
    cases r1
    obtain ⟨its, rv, p, hz⟩ := I1.tuple hq
    refine wpAny_pyIter_tuple (show s1.heap.IsTuple a its.toArray from p) ?_
    refine ⟨s1.heap.objs.size, [s1.heap.objs.size], _, _, H1, rfl, I1.kept (t' := s1.toks) fun b o e => Heap.get?_push_of_some _ e, turn_tuple a _, ⟨_, Heap.get?_push_size _ rfl, rfl, rfl⟩, fun b hb => ?_, q⟩
    have e : b = s1.heap.objs.size := by simpa using hb
    subst e
    exact I1.fpOk (Nat.le_refl _) (I1.hok.fresh (Nat.le_refl _))
def asRng : List D → M (List D)
  | [.int j] => if -(2 ^ 62) ≤ j ∧ j < 2 ^ 62 then M.ok (natsD j.toNat) else .fail
  | _ => .fail
def mRng (ms : Ev → M (List D)) (ev : Ev) : M (List D) := (ms ev).bind asRng
theorem di_range {tg e : Expr} {ms : Ev → M (List D)} {pn pos : Pos} (he : DA c X W [e] ms) (hg : Gl X "range") (hm : X.mg "range" = none) (hs : starEach [e] X.env = [(false, eval e X.env)] := by rfl) : DI c X W tg (.Call (.Name "range" pn) [e] [] pos) (mRng ms) := PI.weak (pi_range1 hg hm he (hs := hs)) fun σ H R h => by
  obtain ⟨p, Hd, ev, k, h⟩ := h
  refine ⟨p, Hd, ev, k, (M.all_bind.mp h).imp fun o q => ?_⟩
  cases o with
  | error x => exact q
  | ok ds =>
    intro vs Hd1 H1 g1 r1
    match ds, r1, q with
    | [.int j], .cons (.int _) .nil, q =>
      have q' : Dr.All _ (if -(2 ^ 62) ≤ j ∧ j < 2 ^ 62 then M.ok (natsD j.toNat) else .fail) := q
      split at q'
      · rename_i hj
        exact ⟨j, rfl, hj.1, hj.2, q' _ Hd1 H1 g1 walks_range⟩
      · exact q'.elim
    | [], _, q => exact (show False from q).elim
    | [.non], _, q => exact (show False from q).elim
    | [.bl _], _, q => exact (show False from q).elim
    | [.str _], _, q => exact (show False from q).elim
    | [.lst _], _, q => exact (show False from q).elim
    | [.tup _], _, q => exact (show False from q).elim
    | [.ins _ _], _, q => exact (show False from q).elim
    | a :: b :: r, _, q => exact (show False by cases a <;> exact q).elim

/-! ### slots stored -/
theorem Ok.set {p : Option Addr} {Hd H : Hp} {σ : St} {ev : Ev} (k : Ok c p Hd H σ ev) {i : Nat} {v : V} {s : Sl} (hs : SlOk c p Hd H v s) (hn : ∀ ds, s ≠ .own ds) : Ok c p Hd H (σ.set i (some v)) (ev.set i (some s)) := by
  refine ⟨k.same, k.pool, by rw [List.length_set, List.length_set]; exact k.len, fun j s' e => ?_, fun j1 j2 ds es l hne e1 e2 => ?_⟩
  · by_cases h : i = j
    · subst h
      by_cases hl : i < ev.length
      · rw [List.getElem?_set_self hl] at e
        cases e
        exact ⟨v, List.getElem?_set_self (by rw [k.len]; exact hl), hs⟩
      · rw [List.getElem?_eq_none (by rw [List.length_set]; omega)] at e
        cases e
    · rw [List.getElem?_set_ne h] at e
      rw [List.getElem?_set_ne h]
      exact k.sl j s' e
  · have no : ∀ (j : Nat) (ds : List D), (ev.set i (some s))[j]? = some (some (.own ds)) → i ≠ j ∧ ev[j]? = some (some (.own ds)) := fun j ds e => by
      by_cases h : i = j
      · subst h
        by_cases hl : i < ev.length
        · rw [List.getElem?_set_self hl] at e
          cases e
          exact absurd rfl (hn ds)
        · rw [List.getElem?_eq_none (by rw [List.length_set]; omega)] at e
          cases e
      · rw [List.getElem?_set_ne h] at e
        exact ⟨h, e⟩
    obtain ⟨a1, b1⟩ := no j1 ds e1
    obtain ⟨a2, b2⟩ := no j2 es e2
    rw [List.getElem?_set_ne a1, List.getElem?_set_ne a2]
    exact k.ne j1 j2 ds es l hne b1 b2
/-- a slot forgotten -/
theorem Ok.drop {p : Option Addr} {Hd H : Hp} {σ : St} {ev : Ev} (k : Ok c p Hd H σ ev) (i : Nat) (o : Option V) : Ok c p Hd H (σ.set i o) (ev.set i none) := by
  have no : ∀ (j : Nat) (s : Sl), (ev.set i none)[j]? = some (some s) → i ≠ j ∧ ev[j]? = some (some s) := fun j s e => by
    by_cases h : i = j
    · subst h
      by_cases hl : i < ev.length
      · rw [List.getElem?_set_self hl] at e
        cases e
      · rw [List.getElem?_eq_none (by rw [List.length_set]; omega)] at e
        cases e
    · rw [List.getElem?_set_ne h] at e
      exact ⟨h, e⟩
  refine ⟨k.same, k.pool, by rw [List.length_set, List.length_set]; exact k.len, fun j s' e => ?_, fun j1 j2 ds es l hne e1 e2 => ?_⟩
  · obtain ⟨a, b⟩ := no j s' e
    rw [List.getElem?_set_ne a]
    exact k.sl j s' b
  · obtain ⟨a1, b1⟩ := no j1 _ e1
    obtain ⟨a2, b2⟩ := no j2 _ e2
    rw [List.getElem?_set_ne a1, List.getElem?_set_ne a2]
    exact k.ne j1 j2 ds es l hne b1 b2
/-- a target: a name; a flat tuple of names -/
inductive Tg where
  | one (i : Nat) | many (is : List Nat)
def Tg.slots : Tg → List Nat
  | .one i => [i]
  | .many is => is
def setAll : List Nat → List D → Ev → Ev
  | i :: is, d :: ds, ev => setAll is ds (ev.set i (some (.dat d)))
  | _, _, ev => ev
def bindT : Tg → D → Ev → Option Ev
  | .one i, d, ev => some (ev.set i (some (.dat d)))
  | .many is, .tup ds, ev => if ds.length = is.length then some (setAll is ds ev) else none
  | .many _, _, _ => none
def gMany : List Nat → TGs
  | [] => gNil
  | i :: is => gCons (gName i) (gMany is)
def gT (K : PySem.W.Frag) : Tg → TG
  | .one i => gName i
  | .many is => gTup K is.length (gMany is)
/-- σ' is σ but for the slots in is -/
def But (is : List Nat) (σ σ' : St) : Prop := ∀ vs : List Nat, (∀ i ∈ is, i ∈ vs) → wipe σ' vs = wipe σ vs
theorem wipe_set {σ : St} {i : Nat} {o : Option V} : ∀ {vs : List Nat}, i ∈ vs → wipe (σ.set i o) vs = wipe σ vs
  | [], h => by cases h
  | v :: vs, h => by
    unfold wipe
    by_cases hv : i ∈ vs
    · rw [wipe_set hv]
    · have e : i = v := by
        rcases List.mem_cons.mp h with e | e
        · exact e
        · exact absurd e hv
      subst e
      have comm : ∀ ws : List Nat, i ∉ ws → wipe (σ.set i o) ws = (wipe σ ws).set i o := by
        intro ws
        induction ws with
        | nil => intro _; rfl
        | cons w ws ih =>
          intro hw
          simp only [List.mem_cons, not_or] at hw
          unfold wipe
          rw [ih hw.2, List.set_comm _ _ hw.1]
      rw [comm vs hv, List.set_set]
theorem But.refl (is : List Nat) (σ : St) : But is σ σ := fun _ _ => rfl
theorem But.set {is : List Nat} {σ : St} {i : Nat} {o : Option V} (h : i ∈ is) : But is σ (σ.set i o) := fun vs hv => wipe_set (hv i h)
theorem But.trans {is : List Nat} {σ σ1 σ2 : St} (a : But is σ σ1) (b : But is σ1 σ2) : But is σ σ2 := fun vs hv => (b vs hv).trans (a vs hv)
theorem gMany_ok {p : Option Addr} {Hd H : Hp} {Q : St → Hp → Prop} : ∀ {is all : List Nat} {vs : List V} {ds : List D} {σ : St} {ev : Ev}, Ok c p Hd H σ ev → Rps c Hd vs ds → ds.length = is.length → (∀ i ∈ is, i ∈ all) →
    (∀ σ', Ok c p Hd H σ' (setAll is ds ev) → But all σ σ' → Q σ' H) → gMany is vs σ H Q
  | [], _, [], [], σ, ev, k, .nil, _, _, q => ⟨rfl, q σ k (But.refl _ σ)⟩
  | _ :: _, _, [], [], _, _, _, .nil, hl, _, _ => by simp at hl
  | [], _, _ :: _, _ :: _, _, _, _, .cons _ _, hl, _, _ => by simp at hl
  | i :: is, all, v :: vs, d :: ds, σ, ev, k, .cons a b, hl, hs, q => by
    refine ⟨v, vs, rfl, ?_⟩
    exact gMany_ok (all := all) (k.set (s := .dat d) a (fun _ h => nomatch h)) b (by simpa using hl) (fun j hj => hs j (List.mem_cons_of_mem _ hj)) fun σ' k' b' => q σ' k' ((But.set (hs i List.mem_cons_self)).trans b')
theorem gT_ok {p : Option Addr} {Hd H : Hp} {σ : St} {ev ev' : Ev} {T : Tg} {v : V} {d : D} {Q : St → Hp → Prop} (k : Ok c p Hd H σ ev) (r : Rp c Hd v d) (e : bindT T d ev = some ev') (q : ∀ σ', Ok c p Hd H σ' ev' → But T.slots σ σ' → Q σ' H) : gT c.K T v σ H Q := by
  cases T with
  | one i =>
    cases e
    exact q _ (k.set (s := .dat d) r (fun _ h => nomatch h)) (But.set List.mem_cons_self)
  | many is =>
    cases r with
    | @tup a xs ds ha rs =>
      simp only [bindT] at e
      split at e
      · rename_i hl
        cases e
        exact ⟨a, xs, rfl, same_t k.same ha, by rw [rs.length]; exact hl, gMany_ok (all := is) k rs hl (fun _ h => h) q⟩
      · cases e
    | _ => cases e
end
end PD

set_option Elab.async false
set_option linter.all false
set_option maxRecDepth 100000
set_option maxHeartbeats 1000000
set_option autoImplicit false
namespace PD
open PySem L2
section
variable {c : Cw} {X : Cx} {W : WX}
abbrev WF : WX := fun _ _ _ _ => False
/-- no error: it would be none -/
def noX {A : Type} (x : M A) : M A := Dr.bind x fun
  | .ok a => M.ok a
  | .error _ => .fail
theorem all_noX {A : Type} {P : A → Prop} {E : Exn → Prop} {x : M A} : (noX x).All (Out P E) ↔ x.All (Out P fun _ => False) := by
  unfold noX
  rw [Dr.all_bind]
  constructor
  · exact fun h => h.imp fun o q => by
      cases o with
      | ok a => exact q
      | error e => exact q
  · exact fun h => h.imp fun o q => by
      cases o with
      | ok a => exact q
      | error e => exact q.elim
def wipeE (ev : Ev) : List Nat → Ev
  | [] => ev
  | v :: vs => (wipeE ev vs).set v none
theorem Ok.wipe {p : Option Addr} {Hd H : Hp} {σ : St} {ev : Ev} (k : Ok c p Hd H σ ev) : ∀ vs : List Nat, Ok c p Hd H (wipe σ vs) (wipeE ev vs)
  | [] => k
  | v :: vs => (k.wipe vs).drop v none
def lcStep (T : Tg) (mt : Ev → M Bool) (me : Ev → M R) (ev : Ev) (d : D) : M (Option D) := match bindT T d ev with
  | none => .fail
  | some ev2 => noX ((mt ev2).bind fun b => if b = true then (mD me ev2).bind fun y => M.ok (some y) else M.ok none)
def lcL (step : D → M (Option D)) : List D → List D → M (List D)
  | [], acc => M.ok acc
  | d :: ds, acc => (step d).bind fun
    | none => lcL step ds acc
    | some y => if acc.length < sizeLine then lcL step ds (acc ++ [y]) else .fail
def mLc (vs : List Nat) (T : Tg) (mi : Ev → M (List D)) (mt : Ev → M Bool) (me : Ev → M R) (ev : Ev) : M R :=
  (mi ev).bind fun ds => (lcL (lcStep T mt me (wipeE ev vs)) ds []).bind fun ys => M.ok (.own ys)
def mYesT (_ : Ev) : M Bool := M.ok true
theorem Go.write {p : Option Addr} {Hd H Hd' H' : Hp} {l : Addr} {u : HO} (g : Go p Hd H Hd' H') (n : H l = none) (n' : Hd' l = none) (np : p ≠ some l) : Go p Hd H Hd' (upd H' l u) := by
  refine ⟨g.d, fun b o e => ?_, fun b o e m => ?_, fun b hb => ?_⟩
  · rw [upd_ne (ne_of_none e n')]
    exact g.s b o e
  · rw [upd_ne (ne_of_none e n)]
    exact g.o b o e m
  · obtain ⟨h1, x, y, h2, h3⟩ := g.q b hb
    have : b ≠ l := fun z => np (by rw [← z]; exact hb)
    rw [upd_ne this]
    exact ⟨h1, x, y, h2, h3⟩
/-- the tests of a comprehension -/
abbrev DTs (c : Cw) (X : Cx) (es : List Expr) (m : Ev → M Bool) : Prop := PTs X es (RT c WF m)
theorem PTs.weak {es : List Expr} {t t' : TT} (h : PTs X es t') (k : ∀ σ H Q, t σ H Q → t' σ H Q) : PTs X es t := ⟨fun pins s σ H Q I q => h.run pins s σ H Q I (k σ H Q q)⟩
theorem dts_nil : DTs c X [] mYesT := PTs.weak pts_nil fun σ H Q h => by
  obtain ⟨p, Hd, ev, k, h⟩ := h
  exact h Hd H k.refl
theorem dts_one {e : Expr} {m : Ev → M Bool} (h : DT c X WF e m) : DTs c X [e] m := pts_one h
theorem re_lc {vs : List Nat} {T : Tg} {mi : Ev → M (List D)} {mt : Ev → M Bool} {me : Ev → M R} (hT : ∀ i ∈ T.slots, i ∈ vs) : ∀ σ H Q, RE c W (mLc vs T mi mt me) σ H Q → tLc (RI c W mi) (gT c.K T) (RT c WF mt) (RE c WF me) vs σ H Q := by
  rintro σ H Q ⟨p, Hd, ev, k, h⟩
  refine ⟨p, Hd, ev, k, (M.all_bind.mp h).imp fun o q => ?_⟩
  cases o with
  | error x => exact q
  | ok ds =>
    intro J Hd1 H1 g1 wk L nL
    have q1 := M.all_bind.mp (show Dr.All _ _ from q)
    have nL0 : Hd1 L = none := g1.s.free nL
    have npL : p ≠ some L := fun z => by
      obtain ⟨_, _, _, e, _⟩ := g1.q L z
      rw [nL] at e
      cases e
    let P : Except Exn (List D) → Prop := Out (fun a => Dr.All (Wants c W p Hd H σ Q) (M.ok (R.own a))) fun x => ∀ cls d Hd' H', Go p Hd H Hd' H' → XOk c Hd' H' x cls d → W cls d σ H'
    refine ⟨fun i m H' => ∃ Hd' acc dacc, m + i = ds.length ∧ Go p Hd1 H1 Hd' H' ∧ Hd' L = none ∧ H' L = some (.lst acc) ∧ Rps c Hd' acc dacc ∧ (lcL (lcStep T mt me (wipeE ev vs)) (ds.drop i) dacc).All P,
      ⟨ds.length, Hd1, [], [], rfl, Go.newOwn g1.s g1.q nL _, nL0, upd_same, .nil, q1⟩, ?_⟩
    rintro i m H' ⟨Hd', acc, dacc, hm, g, n', hL, ra, hA⟩
    obtain ⟨w1, w2⟩ := wk p Hd' H' g.d g.s g.q
    by_cases hi : i < ds.length
    · have hd : ds[i]? = some ds[i] := by simp [hi]
      obtain ⟨go, yl⟩ := w1 i ds[i] hd
      rw [List.drop_eq_getElem_cons hi] at hA
      have hA2 := M.all_bind.mp (show Dr.All P ((lcStep T mt me (wipeE ev vs) ds[i]).bind _) from hA)
      refine .inr ⟨go, fun H5 => ∃ Hd5 acc5 dacc5, Go p Hd1 H1 Hd5 H5 ∧ Hd5 L = none ∧ H5 L = some (.lst acc5) ∧ Rps c Hd5 acc5 dacc5 ∧ (lcL (lcStep T mt me (wipeE ev vs)) (ds.drop (i + 1)) dacc5).All P,
        fun H5 ⟨Hd5, acc5, dacc5, h1, h2, h3, h4, h5⟩ => ⟨m - 1, by omega, Hd5, acc5, dacc5, by omega, h1, h2, h3, h4, h5⟩, fun x H3 hy => ?_⟩
      obtain ⟨Hd3, g3, r3⟩ := yl x H3 hy
      have k3 : Ok c p Hd3 H3 (wipe σ vs) (wipeE ev vs) := (((k.go g1).wipe vs).go (g.trans g3))
      have n3 : Hd3 L = none := (g3.o L _ hL n').1
      have h3L : H3 L = some (.lst acc) := (g3.o L _ hL n').2 npL
      cases eb : bindT T ds[i] (wipeE ev vs) with
      | none =>
        have e0 : lcStep T mt me (wipeE ev vs) ds[i] = .fail := by
          unfold lcStep
          rw [eb]
        rw [e0] at hA2
        exact (show False from hA2).elim
      | some ev2 =>
        have e0 : lcStep T mt me (wipeE ev vs) ds[i] = noX ((mt ev2).bind fun b => if b = true then (mD me ev2).bind fun y => M.ok (some y) else M.ok none) := by
          unfold lcStep
          rw [eb]
        rw [e0] at hA2
        refine gT_ok k3 r3 eb fun σ2 k4 b4 => ⟨?_, ?_⟩
        · rw [b4 vs hT]
          have ww : ∀ ws us : List Nat, (∀ i ∈ ws, i ∈ us) → wipe (wipe σ ws) us = wipe σ us := by
            intro ws us
            induction ws with
            | nil => intro _; rfl
            | cons w ws ih =>
              intro hw
              show wipe ((wipe σ ws).set w none) us = _
              rw [wipe_set (hw w List.mem_cons_self), ih fun j hj => hw j (List.mem_cons_of_mem _ hj)]
          exact ww vs vs fun _ h => h
        · rw [all_noX, M.all_bind] at hA2
          refine ⟨p, Hd3, ev2, k4, hA2.imp fun o q => ?_⟩
          cases o with
          | error x => exact fun _ _ _ _ _ _ => q
          | ok b =>
            intro Hd4 H4 g4
            have n4 : Hd4 L = none := (g4.o L _ h3L n3).1
            have h4L : H4 L = some (.lst acc) := (g4.o L _ h3L n3).2 npL
            cases b with
            | false =>
              show ∃ Hd5 acc5 dacc5, _
              refine ⟨Hd4, acc, dacc, (g.trans g3).trans g4, n4, h4L, (ra.mono g3.d).mono g4.d, ?_⟩
              exact (show Dr.All P (lcL (lcStep T mt me (wipeE ev vs)) (ds.drop (i + 1)) dacc) from q)
            | true =>
              have q2 := M.all_bind.mp (show Dr.All _ ((mD me ev2).bind _) from q)
              refine re_then (k4.go g4) (q2.imp fun o q => ?_)
              cases o with
              | error x => exact fun _ _ _ _ _ _ => q
              | ok y =>
                intro v Hd5 H5 g5 r5
                have n5 : Hd5 L = none := (g5.o L _ h4L n4).1
                have h5L : H5 L = some (.lst acc) := (g5.o L _ h4L n4).2 npL
                have q3 : Dr.All P (if dacc.length < sizeLine then lcL (lcStep T mt me (wipeE ev vs)) (ds.drop (i + 1)) (dacc ++ [y]) else .fail) := q
                split at q3
                · rename_i hl
                  refine ⟨acc, h5L, by rw [ra.length]; exact hl, Hd5, acc ++ [v], dacc ++ [y], ?_, n5, upd_same, ?_, q3⟩
                  · exact (((g.trans g3).trans g4).trans g5).write nL n5 npL
                  · exact (((ra.mono g3.d).mono g4.d).mono g5.d).append (.cons r5 .nil)
                · exact q3.elim
    · have e : i = ds.length := by omega
      subst e
      rw [List.drop_length] at hA
      refine .inl ⟨w2, ?_⟩
      exact (show Dr.All (Wants c W p Hd H σ Q) (M.ok (R.own dacc)) from hA) _ Hd' H' (g1.trans g) ⟨L, acc, rfl, g1.dom k.same nL, n', npL, hL, ra⟩
theorem de_lc {elt tg iter : Expr} {ifs : List Expr} {scope : Scope} {own : List (Str × Nat)} {pos : Pos} {T : Tg} {mi : Ev → M (List D)} {mt : Ev → M Bool} {me : Ev → M R} (hc : X.calm = true) (hN : X.N.Nodup) (hi : DI c X W tg iter mi) (ok : BlkOk X.N X.env.scope scope own)
    (hg : ∀ (s : Shared) (H : Hp) (C : Addr) (cl : List (Str × Addr)) (fp : List Addr), PG (X.blk s H scope (compEnvC scope cl C X.env) fp) tg (gT c.K T)) (ht : ∀ (s : Shared) (H : Hp) (C : Addr) (cl : List (Str × Addr)) (fp : List Addr), DTs c (X.blk s H scope (compEnvC scope cl C X.env) fp) ifs mt)
    (he : ∀ (s : Shared) (H : Hp) (C : Addr) (cl : List (Str × Addr)) (fp : List Addr), DE c (X.blk s H scope (compEnvC scope cl C X.env) fp) WF elt me) {ix : List Nat} (hix : own.map (·.2) = ix := by rfl) (hT : ∀ i ∈ T.slots, i ∈ ix := by decide) (hs : ∀ x, foldedSetIterable iter X.env x = pure x := by intro _; rfl) :
    DE c X W (.ListComp elt [⟨tg, iter, ifs, 0⟩] scope pos) (mLc ix T mi mt me) := by
  subst hix
  exact PE.weak (pe_lc hc hN hi ok hg ht he hs) (re_lc hT)
end
end PD

set_option Elab.async false
set_option linter.all false
set_option maxRecDepth 100000
set_option maxHeartbeats 1000000
set_option autoImplicit false
namespace PD
open PySem L2
/-- the entry of a def, and a heap of data that stays -/
structure En where
  p0 : Option Addr
  Hd0 : Hp
  H0 : Hp
  B : Hp
structure SOk (c : Cw) (n : En) (p : Option Addr) (Hd H : Hp) (σ : St) (ev : Ev) : Prop where
  sm0 : Same n.Hd0 n.H0
  pq0 : PoolOk n.p0 n.Hd0 n.H0
  ok : Ok c p Hd H σ ev
  go : Go n.p0 n.Hd0 n.H0 Hd H
  base : Same n.B Hd
  fr : ∀ (i : Nat) (ds : List D) (l : Addr), ev[i]? = some (some (.own ds)) → σ[i]? = some (some (.ref l)) → n.H0 l = none
  pp : p = n.p0 ∨ ∀ a, p = some a → n.H0 a = none
inductive Fl where
  | next (ev : Ev) | ret (r : R) | brk (ev : Ev) | cont (ev : Ev) | exc (x : Exn) (ev : Ev)
def FlOk (c : Cw) (W : WX) (n : En) (D : Ends) : Fl → Prop
  | .next ev => ∀ p σ Hd H, SOk c n p Hd H σ ev → D.nx σ H
  | .brk ev => ∀ p σ Hd H, SOk c n p Hd H σ ev → D.bk σ H
  | .cont ev => ∀ p σ Hd H, SOk c n p Hd H σ ev → D.ct σ H
  | .ret r => ∀ v Hd H, Go n.p0 n.Hd0 n.H0 Hd H → ResOk c n.p0 n.H0 Hd H v r → D.rt v H
  | .exc x ev => ∀ p σ Hd H cls d, SOk c n p Hd H σ ev → XOk c Hd H x cls d → W cls d σ H
def RS (c : Cw) (W : WX) (m : Ev → Dr Fl) : TS := fun D σ H => ∃ n p Hd ev, SOk c n p Hd H σ ev ∧ (m ev).All (FlOk c W n D)
section
variable {c : Cw} {X : Cx} {W : WX}
abbrev DS (c : Cw) (X : Cx) (W : WX) (s : Stmt) (m : Ev → Dr Fl) : Prop := PS X s (RS c W m)
abbrev DSs (c : Cw) (X : Cx) (W : WX) (s : List Stmt) (m : Ev → Dr Fl) : Prop := PSs X s (RS c W m)
/-- the pool's case: an object that stood at the entry is not a later pool -/
theorem SOk.notp {n : En} {p : Option Addr} {Hd H : Hp} {σ : St} {ev : Ev} (k : SOk c n p Hd H σ ev) {a : Addr} {u : HO} (e : n.H0 a = some u) (h : n.p0 ≠ some a) : p ≠ some a := by
  rcases k.pp with h1 | h2
  · rw [h1]
    exact h
  · intro z
    rw [h2 a z] at e
    cases e
theorem SOk.np0 {n : En} {p : Option Addr} {Hd H : Hp} {σ : St} {ev : Ev} (k : SOk c n p Hd H σ ev) {a : Addr} (e : n.H0 a = none) : n.p0 ≠ some a := fun z => by
  obtain ⟨_, _, _, h, _⟩ := k.pq0 a z
  rw [e] at h
  cases h
theorem SOk.dom {n : En} {p : Option Addr} {Hd H : Hp} {σ : St} {ev : Ev} (k : SOk c n p Hd H σ ev) {a : Addr} (h : H a = none) : n.H0 a = none := k.go.dom k.sm0 h
/-- the entry's pool goes on being one -/
theorem SOk.pool0 {n : En} {p : Option Addr} {Hd H Hd' H' : Hp} {σ : St} {ev : Ev} (k : SOk c n p Hd H σ ev) (g1 : ∀ a u, H a = some u → Hd a = none → p ≠ some a → Hd' a = none ∧ H' a = some u) (g2 : PoolOk p Hd' H') : PoolOk n.p0 Hd' H' := fun a ha => by
  rcases k.pp with h | h
  · exact g2 a (by rw [h]; exact ha)
  · obtain ⟨_, _, _, e0, _⟩ := k.pq0 a ha
    obtain ⟨m, x, y, e1, r⟩ := k.go.q a ha
    have np : p ≠ some a := fun z => by
      rw [h a z] at e0
      cases e0
    obtain ⟨h1, h2⟩ := g1 a _ e1 m np
    exact ⟨h1, x, y, h2, r⟩
theorem SOk.goes {n : En} {p : Option Addr} {Hd H Hd' H' : Hp} {σ : St} {ev : Ev} (k : SOk c n p Hd H σ ev) (g : Go p Hd H Hd' H') : Go n.p0 n.Hd0 n.H0 Hd' H' := by
  have q0 : PoolOk n.p0 Hd' H' := k.pool0 (fun a u e m np => ⟨(g.o a u e m).1, (g.o a u e m).2 np⟩) g.q
  refine ⟨k.go.d.trans g.d, g.s, fun a u e m => ?_, q0⟩
  obtain ⟨m1, h1⟩ := k.go.o a u e m
  by_cases hp : n.p0 = some a
  · exact ⟨(q0 a hp).1, fun z => absurd hp z⟩
  · obtain ⟨m2, h2⟩ := g.o a u (h1 hp) m1
    exact ⟨m2, fun _ => h2 (k.notp e hp)⟩
theorem SOk.step {n : En} {p : Option Addr} {Hd H Hd' H' : Hp} {σ : St} {ev : Ev} (k : SOk c n p Hd H σ ev) (g : Go p Hd H Hd' H') : SOk c n p Hd' H' σ ev :=
  ⟨k.sm0, k.pq0, k.ok.go g, k.goes g, k.base.trans g.d, k.fr, k.pp⟩
/-! ### own lists taken as data for a while -/
def frz1 (i : Nat) (ev : Ev) : Ev := match ev[i]? with
  | some (some (.own ds)) => ev.set i (some (.dat (.lst ds)))
  | _ => ev
def frz : List Nat → Ev → Ev
  | [], ev => ev
  | i :: is, ev => frz is (frz1 i ev)
/-- behind a freeze: the heap of data is larger; the own lists are there -/
structure Frz (n : En) (p : Option Addr) (Hd Hdf H : Hp) : Prop where
  d : Same Hd Hdf
  s : Same Hdf H
  o : ∀ a, Hd a = none → Hdf a ≠ none → n.H0 a = none ∧ p ≠ some a
theorem frz1_ok {n : En} {p : Option Addr} {Hd H : Hp} {σ : St} {ev : Ev} (k : SOk c n p Hd H σ ev) (i : Nat) : ∃ Hdf, SOk c n p Hdf H σ (frz1 i ev) ∧ Frz n p Hd Hdf H := by
  unfold frz1
  split
  · rename_i ds e
    obtain ⟨v, e1, l, vs, rfl, nl, np, hl, rs⟩ := k.ok.sl i _ e
    have h0 := k.fr i ds l e e1
    have sm : Same Hd (upd Hd l (.lst vs)) := fun b o h => by
      rw [upd_ne (ne_of_none h nl)]
      exact h
    have sm2 : Same (upd Hd l (.lst vs)) H := fun b o h => by
      by_cases hb : b = l
      · subst hb
        rw [upd_same] at h
        cases h
        exact hl
      · rw [upd_ne hb] at h
        exact k.ok.same b o h
    have hi : i < ev.length := (List.getElem?_eq_some_iff.mp e).1
    refine ⟨upd Hd l (.lst vs), ⟨k.sm0, k.pq0, ⟨sm2, fun a ha => ?_, by rw [List.length_set]; exact k.ok.len, fun j s hs => ?_, fun j1 j2 ds1 ds2 l' hne h1 h2 => ?_⟩, k.go.freeze h0 nl (k.np0 h0) hl, k.base.trans sm, fun j es l' h1 h2 => ?_, k.pp⟩, sm, sm2, fun a h1 h2 => ?_⟩
    · obtain ⟨h1, x, y, h2⟩ := k.ok.pool a ha
      have : a ≠ l := fun z => np (by rw [← z]; exact ha)
      rw [upd_ne this]
      exact ⟨h1, x, y, h2⟩
    · by_cases hj : i = j
      · subst hj
        rw [List.getElem?_set_self hi] at hs
        cases hs
        exact ⟨_, e1, Rp.lst upd_same (rs.mono sm)⟩
      · rw [List.getElem?_set_ne hj] at hs
        obtain ⟨w, h1, h2⟩ := k.ok.sl j s hs
        refine ⟨w, h1, ?_⟩
        cases s with
        | dat d => exact Rp.mono sm h2
        | pool => exact h2
        | scr ns =>
          obtain ⟨a, q1, q3, q4⟩ := h2
          exact ⟨a, q1, sm.seq q3, q4⟩
        | exc x =>
          obtain ⟨a, dd, u, q1, q2, q3, q4, q5, q6⟩ := h2
          have : dd ≠ l := ne_of q5 hl (fun z => nomatch z)
          exact ⟨a, dd, u, q1, q2, by rw [upd_ne this]; exact q3, q4, q5, q6.mono sm⟩
        | own es =>
          obtain ⟨l', vs', rfl, q1, q2, q3, q4⟩ := h2
          have : l' ≠ l := fun z => by
            subst z
            exact k.ok.ne i j ds es l' hj e hs e1 h1
          exact ⟨l', vs', rfl, by rw [upd_ne this]; exact q1, q2, q3, q4.mono sm⟩
    · have no : ∀ (j : Nat) (ds' : List D), (ev.set i (some (.dat (.lst ds))))[j]? = some (some (.own ds')) → ev[j]? = some (some (.own ds')) := fun j ds' h => by
        by_cases hj : i = j
        · subst hj
          rw [List.getElem?_set_self hi] at h
          cases h
        · rw [List.getElem?_set_ne hj] at h
          exact h
      exact k.ok.ne j1 j2 ds1 ds2 l' hne (no j1 ds1 h1) (no j2 ds2 h2)
    · by_cases hj : i = j
      · subst hj
        rw [List.getElem?_set_self hi] at h1
        cases h1
      · rw [List.getElem?_set_ne hj] at h1
        exact k.fr j es l' h1 h2
    · have : a = l := by
        by_cases hb : a = l
        · exact hb
        · rw [upd_ne hb] at h2
          exact absurd h1 h2
      subst this
      exact ⟨h0, np⟩
  · exact ⟨Hd, k, Same.refl _, k.ok.same, fun a h1 h2 => absurd h1 h2⟩
theorem frz_ok {n : En} {p : Option Addr} {H : Hp} {σ : St} : ∀ (is : List Nat) {Hd : Hp} {ev : Ev}, SOk c n p Hd H σ ev → ∃ Hdf, SOk c n p Hdf H σ (frz is ev) ∧ Frz n p Hd Hdf H
  | [], Hd, _, k => ⟨Hd, k, Same.refl _, k.ok.same, fun a h1 h2 => absurd h1 h2⟩
  | i :: is, Hd, ev, k => by
    obtain ⟨Hd1, k1, f1⟩ := frz1_ok k i
    obtain ⟨Hd2, k2, f2⟩ := frz_ok is k1
    refine ⟨Hd2, k2, f1.d.trans f2.d, f2.s, fun a h1 h2 => ?_⟩
    by_cases h : Hd1 a = none
    · exact f2.o a h h2
    · exact f1.o a h1 h
/-- behind an evaluation whose result refers to nothing: back to the old data, the own lists are own again -/
theorem SOk.thaw {n : En} {p : Option Addr} {Hd Hdf H Hd' H' : Hp} {σ : St} {ev : Ev} (k : SOk c n p Hd H σ ev) (f : Frz n p Hd Hdf H) (g : Go p Hdf H Hd' H') : SOk c n p Hd H' σ ev := by
  have sm : Same Hd H' := (f.d.trans g.d).trans g.s
  have keep : ∀ a u, H a = some u → Hd a = none → p ≠ some a → H' a = some u := fun a u e m hp => by
    by_cases h : Hdf a = none
    · exact (g.o a u e h).2 hp
    · cases q : Hdf a with
      | none => exact absurd q h
      | some w =>
        have := f.s a w q
        rw [e] at this
        cases this
        exact g.s a u (g.d a u q)
  have gp : PoolOk p Hd H' := fun a ha => ⟨(k.ok.pool a ha).1, (g.q a ha).2⟩
  have gp0 : PoolOk n.p0 Hd H' := k.pool0 (fun a u e m np => ⟨m, keep a u e m np⟩) gp
  refine ⟨k.sm0, k.pq0, ⟨sm, gp, k.ok.len, fun i s e => ?_, k.ok.ne⟩, ⟨k.go.d, sm, fun a u e m => ?_, gp0⟩, k.base, k.fr, k.pp⟩
  · obtain ⟨v, h1, h2⟩ := k.ok.sl i s e
    refine ⟨v, h1, ?_⟩
    cases s with
    | dat d => exact h2
    | pool => exact h2
    | scr ns => exact h2
    | exc x =>
      obtain ⟨a, dd, u, q1, q2, q3, q4, q5, q6⟩ := h2
      exact ⟨a, dd, u, q1, q2, q3, q4, keep dd _ q5 q3 q4, q6⟩
    | own ds =>
      obtain ⟨l, vs, q0, q1, q2, q3, q4⟩ := h2
      exact ⟨l, vs, q0, q1, q2, keep l _ q3 q1 q2, q4⟩
  · obtain ⟨m1, h1⟩ := k.go.o a u e m
    exact ⟨m1, fun hp => keep a u (h1 hp) m1 (k.notp e hp)⟩
def R.sc : R → Bool
  | .dat d => d.sc
  | .own _ => false
/-- a result at a statement -/
def ResS (c : Cw) (n : En) (p : Option Addr) (Hd' H' : Hp) (σ : St) (ev : Ev) (v : V) : R → Prop
  | .dat d => Rp c Hd' v d
  | .own ds => ∃ (l : Addr) (vs : List V), v = .ref l ∧ n.H0 l = none ∧ Hd' l = none ∧ p ≠ some l ∧ H' l = some (.lst vs) ∧ Rps c Hd' vs ds ∧ ∀ (i : Nat) (es : List D), ev[i]? = some (some (.own es)) → σ[i]? ≠ some (some (.ref l))
def evS (is : List Nat) (m : Ev → M R) (ev : Ev) : Dr (Except Exn R × Ev) := Dr.bind (m (frz is ev)) fun
  | .ok r => .ret (.ok r, if r.sc then ev else frz is ev)
  | .error x => .ret (.error x, frz is ev)
def SWants (c : Cw) (W : WX) (n : En) (σ : St) (Q : VK) : Except Exn R × Ev → Prop
  | (.ok r, ev) => ∀ v p Hd' H', SOk c n p Hd' H' σ ev → ResS c n p Hd' H' σ ev v r → Q v H'
  | (.error x, ev) => ∀ p Hd' H' cls d, SOk c n p Hd' H' σ ev → XOk c Hd' H' x cls d → W cls d σ H'
theorem st_expr {n : En} {p : Option Addr} {Hd H : Hp} {σ : St} {ev : Ev} {is : List Nat} {m : Ev → M R} {Q : VK} (k : SOk c n p Hd H σ ev) (h : (evS is m ev).All (SWants c W n σ Q)) : RE c W m σ H Q := by
  obtain ⟨Hdf, kf, f⟩ := frz_ok is k
  refine ⟨p, Hdf, frz is ev, kf.ok, (Dr.all_bind.mp h).imp fun o q => ?_⟩
  cases o with
  | error x => exact fun cls d Hd' H' g xk => (show SWants c W n σ Q (.error x, frz is ev) from q) p Hd' H' cls d (kf.step g) xk
  | ok r =>
    intro v Hd' H' g rk
    have q' : SWants c W n σ Q (.ok r, if r.sc then ev else frz is ev) := q
    cases hs : r.sc with
    | true =>
      rw [hs] at q'
      cases r with
      | own ds => cases hs
      | dat d =>
        refine q' v p Hd H' (k.thaw f g) ?_
        have rk' : Rp c Hd' v d := rk
        show Rp c Hd v d
        cases rk' with
        | non => exact .non
        | bl b => exact .bl b
        | int b => exact .int b
        | str b => exact .str b
        | lst _ _ => cases hs
        | tup _ _ => cases hs
        | ins _ _ => cases hs
    | false =>
      rw [hs] at q'
      refine q' v p Hd' H' (kf.step g) ?_
      cases r with
      | dat d => exact rk
      | own ds =>
        obtain ⟨l, vs, e, n1, n2, n3, n4, n5⟩ := rk
        refine ⟨l, vs, e, kf.dom n1, n2, n3, n4, n5, fun i es he hσ => ?_⟩
        obtain ⟨w, h1, l', vs', rfl, _, _, h2, _⟩ := kf.ok.sl i _ he
        rw [h1] at hσ
        cases hσ
        rw [n1] at h2
        cases h2
end
end PD

set_option Elab.async false
set_option linter.all false
set_option maxRecDepth 100000
set_option maxHeartbeats 1000000
set_option autoImplicit false
namespace PD
open PySem L2
section
variable {c : Cw} {X : Cx} {W : WX}
/-! ### blocks -/
def sNil (ev : Ev) : Dr Fl := .ret (.next ev)
def onNext (b : Ev → Dr Fl) : Fl → Dr Fl
  | .next ev => b ev
  | f => .ret f
def sSeq (a b : Ev → Dr Fl) (ev : Ev) : Dr Fl := (a ev).bind (onNext b)
theorem dss_nil : DSs c X W [] sNil := PSs.weak pss_nil fun σ H D h => by
  obtain ⟨n, p, Hd, ev, k, h⟩ := h
  exact (show FlOk c W n D (.next ev) from h) p σ Hd H k
theorem dss_cons {s : Stmt} {r : List Stmt} {a b : Ev → Dr Fl} (ha : DS c X W s a) (hb : DSs c X W r b) : DSs c X W (s :: r) (sSeq a b) := PSs.weak (pss_cons ha hb) fun σ H D h => by
  obtain ⟨n, p, Hd, ev, k, h⟩ := h
  refine ⟨n, p, Hd, ev, k, (Dr.all_bind.mp h).imp fun f q => ?_⟩
  cases f with
  | next ev' => exact fun p' σ' Hd' H' k' => ⟨n, p', Hd', ev', k', q⟩
  | ret r => exact q
  | brk ev' => exact q
  | cont ev' => exact q
  | exc x ev' => exact q
theorem dss_one {s : Stmt} {a : Ev → Dr Fl} (ha : DS c X W s a) : DSs c X W [s] a := pss_one ha
/-! ### name = e -/
def R.sl : R → Sl
  | .dat d => .dat d
  | .own ds => .own ds
def sSet (is : List Nat) (i : Nat) (m : Ev → M R) (ev : Ev) : Dr Fl := (evS is m ev).bind fun
  | (.ok r, ev') => .ret (.next (ev'.set i (some r.sl)))
  | (.error x, ev') => .ret (.exc x ev')
theorem SOk.set {n : En} {p : Option Addr} {Hd H : Hp} {σ : St} {ev : Ev} (k : SOk c n p Hd H σ ev) {v : V} {r : R} (h : ResS c n p Hd H σ ev v r) (i : Nat) : SOk c n p Hd H (σ.set i (some v)) (ev.set i (some r.sl)) := by
  have hin : ∀ (j : Nat) (s : Sl), (ev.set i (some r.sl))[j]? = some (some s) → (i = j ∧ i < ev.length ∧ s = r.sl) ∨ (i ≠ j ∧ ev[j]? = some (some s)) := fun j s e => by
    by_cases hj : i = j
    · subst hj
      by_cases hl : i < ev.length
      · rw [List.getElem?_set_self hl] at e
        cases e
        exact .inl ⟨rfl, hl, rfl⟩
      · rw [List.getElem?_eq_none (by rw [List.length_set]; omega)] at e
        cases e
    · rw [List.getElem?_set_ne hj] at e
      exact .inr ⟨hj, e⟩
  have hsl : SlOk c p Hd H v r.sl := by
    cases r with
    | dat d => exact h
    | own ds =>
      obtain ⟨l, vs, e, _, h2, h3, h4, h5, _⟩ := h
      exact ⟨l, vs, e, h2, h3, h4, h5⟩
  have sg : ∀ {l : Addr}, i < ev.length → (σ.set i (some v))[i]? = some (some (.ref l)) → v = .ref l := fun {l} hl e => by
    rw [List.getElem?_set_self (by rw [k.ok.len]; exact hl)] at e
    cases e
    rfl
  refine ⟨k.sm0, k.pq0, ⟨k.ok.same, k.ok.pool, by rw [List.length_set, List.length_set]; exact k.ok.len, fun j s e => ?_, fun j1 j2 ds es l hne e1 e2 h1 h2 => ?_⟩, k.go, k.base, fun j ds l e h1 => ?_, k.pp⟩
  · rcases hin j s e with ⟨rfl, hl, rfl⟩ | ⟨hj, e'⟩
    · exact ⟨v, List.getElem?_set_self (by rw [k.ok.len]; exact hl), hsl⟩
    · rw [List.getElem?_set_ne hj]
      exact k.ok.sl j s e'
  · rcases hin j1 _ e1 with ⟨rfl, hl, hr⟩ | ⟨hj1, e1'⟩
    · rcases hin j2 _ e2 with ⟨rfl, _, _⟩ | ⟨hj2, e2'⟩
      · exact hne rfl
      · cases r with
        | dat d => cases hr
        | own ds' =>
          obtain ⟨l', vs, e, _, _, _, _, _, hx⟩ := h
          have := sg hl h1
          rw [e] at this
          cases this
          rw [List.getElem?_set_ne hj2] at h2
          exact hx j2 es e2' h2
    · rcases hin j2 _ e2 with ⟨rfl, hl, hr⟩ | ⟨hj2, e2'⟩
      · cases r with
        | dat d => cases hr
        | own ds' =>
          obtain ⟨l', vs, e, _, _, _, _, _, hx⟩ := h
          have := sg hl h2
          rw [e] at this
          cases this
          rw [List.getElem?_set_ne hj1] at h1
          exact hx j1 ds e1' h1
      · rw [List.getElem?_set_ne hj1] at h1
        rw [List.getElem?_set_ne hj2] at h2
        exact k.ok.ne j1 j2 ds es l hne e1' e2' h1 h2
  · rcases hin j _ e with ⟨rfl, hl, hr⟩ | ⟨hj, e'⟩
    · cases r with
      | dat d => cases hr
      | own ds' =>
        obtain ⟨l', vs, e, h0, _⟩ := h
        have := sg hl h1
        rw [e] at this
        cases this
        exact h0
    · rw [List.getElem?_set_ne hj] at h1
      exact k.fr j ds l e' h1
theorem sset_ok {n : En} {σ : St} {D : Ends} {i : Nat} {o : Except Exn R × Ev} (q : Dr.All (FlOk c W n D) (match o with
  | (.ok r, ev') => .ret (.next (ev'.set i (some r.sl)))
  | (.error x, ev') => .ret (.exc x ev'))) : SWants c W n σ (fun v H1 => D.nx (σ.set i (some v)) H1) o := by
  obtain ⟨o, ev'⟩ := o
  cases o with
  | error x => exact fun p Hd' H' cls d k' xk => (show FlOk c W n D (.exc x ev') from q) p σ Hd' H' cls d k' xk
  | ok r => exact fun v p Hd' H' k' rk => (show FlOk c W n D (.next (ev'.set i (some r.sl))) from q) p _ Hd' H' (k'.set rk i)
theorem ds_set {is : List Nat} {i : Nat} {x : Str} {e : Expr} {m : Ev → M R} {pos pos' : Pos} (hN : X.N.Nodup) (hi : X.N[i]? = some x) (hx : Loc X.env.scope x) (he : DE c X W e m) (hs : swapsWith e (some (.Name x pos')) pos.line X.env = pure false := by rfl)
    (hf : X.fn x = true ∨ X.env.scope.names.lookup x = some .local := by first | exact .inl rfl | exact .inr rfl | assumption) : DS c X W (.Assign [.Name x pos'] e pos) (sSet is i m) := PS.weak (ps_set hN hi hx he hs hf) fun σ H D h => by
  obtain ⟨n, p, Hd, ev, k, h⟩ := h
  exact st_expr (is := is) k ((Dr.all_bind.mp h).imp fun o q => sset_ok q)
/-- name = [..], the name a local on the comprehension's own line -/
theorem ds_setLc {is : List Nat} {i : Nat} {y : Str} {py : Pos} {elt tg iter : Expr} {ifs : List Expr} {scope : Scope} {own : List (Str × Nat)} {pos spos : Pos} {T : Tg} {mi : Ev → M (List D)} {mt : Ev → M Bool} {me : Ev → M R} (hc : X.calm = true) (hN : X.N.Nodup) (hy : X.N[i]? = some y) (hyl : X.env.scope.names.lookup y = some .local)
    (hsw : swapsWith (.ListComp elt [⟨tg, iter, ifs, 0⟩] scope pos) (some (.Name y py)) spos.line X.env = pure true) (hi : DI c X W tg iter mi) (ok : BlkOk X.N X.env.scope scope own)
    (hg : ∀ (s : Shared) (H : Hp) (C : Addr) (cl : List (Str × Addr)) (fp : List Addr), PG (X.blk s H scope (compEnvC scope cl C X.env) fp) tg (gT c.K T)) (ht : ∀ (s : Shared) (H : Hp) (C : Addr) (cl : List (Str × Addr)) (fp : List Addr), DTs c (X.blk s H scope (compEnvC scope cl C X.env) fp) ifs mt)
    (he : ∀ (s : Shared) (H : Hp) (C : Addr) (cl : List (Str × Addr)) (fp : List Addr), DE c (X.blk s H scope (compEnvC scope cl C X.env) fp) WF elt me) {ix : List Nat} (hix : own.map (·.2) = ix := by rfl) (hT : ∀ i ∈ T.slots, i ∈ ix := by decide) (hs : ∀ x, foldedSetIterable iter X.env x = pure x := by intro _; rfl) :
    DS c X W (.Assign [.Name y py] (.ListComp elt [⟨tg, iter, ifs, 0⟩] scope pos) spos) (sSet is i (mLc ix T mi mt me)) := by
  subst hix
  refine PS.weak (ps_setLc hc hN hy hyl hsw hi ok hg ht he hs) fun σ H D h => ?_
  obtain ⟨n, p, Hd, ev, k, h⟩ := h
  exact re_lc hT σ H _ (st_expr (is := is) k ((Dr.all_bind.mp h).imp fun o q => sset_ok q))
/-! ### return, an expression dropped -/
def sRet (is : List Nat) (m : Ev → M R) (ev : Ev) : Dr Fl := (evS is m ev).bind fun
  | (.ok r, _) => .ret (.ret r)
  | (.error x, ev') => .ret (.exc x ev')
theorem ResS.res {n : En} {p : Option Addr} {Hd H : Hp} {σ : St} {ev : Ev} {v : V} {r : R} (k : SOk c n p Hd H σ ev) (h : ResS c n p Hd H σ ev v r) : ResOk c n.p0 n.H0 Hd H v r := by
  cases r with
  | dat d => exact h
  | own ds =>
    obtain ⟨l, vs, e, h1, h2, h3, h4, h5, _⟩ := h
    exact ⟨l, vs, e, h1, h2, k.np0 h1, h4, h5⟩
theorem ds_ret {is : List Nat} {e : Expr} {m : Ev → M R} {pos : Pos} (he : DE c X W e m) : DS c X W (.Return (some e) pos) (sRet is m) := PS.weak (ps_ret he) fun σ H D h => by
  obtain ⟨n, p, Hd, ev, k, h⟩ := h
  refine st_expr (is := is) k ((Dr.all_bind.mp h).imp fun o q => ?_)
  obtain ⟨o, ev'⟩ := o
  cases o with
  | error x => exact fun p Hd' H' cls d k' xk => (show FlOk c W n D (.exc x ev') from q) p σ Hd' H' cls d k' xk
  | ok r => exact fun v p Hd' H' k' rk => (show FlOk c W n D (.ret r) from q) v Hd' H' k'.go (rk.res k')
/-- return name, the name an own list: it is handed over -/
def sRetV (i : Nat) (ev : Ev) : Dr Fl := match ev[i]? with
  | some (some (.own ds)) => .ret (.ret (.own ds))
  | some (some (.dat d)) => .ret (.ret (.dat d))
  | _ => .fail
theorem ds_retV (i : Nat) {x : Str} {pos pos' : Pos} (hN : X.N[i]? = some x := by rfl) (hv : Vis X.env.scope x := by first | exact Or.inl rfl | exact Or.inr (Or.inl rfl) | exact Or.inr (Or.inr rfl)) (hd : (x == ("__debug__" : Str)) = false := by decide)
    (hcd : (x == ("__classdict__" : Str)) = false := by decide) : DS c X W (.Return (some (.Name x pos')) pos) (sRetV i) := PS.weak (ps_ret (pe_var hN hv hd hcd)) fun σ H D h => by
  obtain ⟨n, p, Hd, ev, k, h⟩ := h
  unfold sRetV at h
  split at h
  · rename_i ds e
    obtain ⟨v, e1, e2⟩ := k.ok.sl i _ e
    refine ⟨v, e1, (show FlOk c W n D (.ret (.own ds)) from h) v Hd H k.go ?_⟩
    obtain ⟨l, vs, rfl, h1, h2, h3, h4⟩ := e2
    exact ⟨l, vs, rfl, k.fr i ds l e e1, h1, k.np0 (k.fr i ds l e e1), h3, h4⟩
  · rename_i d e
    obtain ⟨v, e1, e2⟩ := k.ok.sl i _ e
    exact ⟨v, e1, (show FlOk c W n D (.ret (.dat d)) from h) v Hd H k.go e2⟩
  · exact h.elim
def sRetN (_ : Ev) : Dr Fl := .ret (.ret (.dat .non))
theorem ds_retN {pos : Pos} : DS c X W (.Return none pos) sRetN := PS.weak ps_retN fun σ H D h => by
  obtain ⟨n, p, Hd, ev, k, h⟩ := h
  exact (show FlOk c W n D (.ret (.dat .non)) from h) _ Hd H k.go .non
def sDrop (is : List Nat) (m : Ev → M R) (ev : Ev) : Dr Fl := (evS is m ev).bind fun
  | (.ok _, ev') => .ret (.next ev')
  | (.error x, ev') => .ret (.exc x ev')
theorem ds_drop {is : List Nat} {e : Expr} {m : Ev → M R} {pos : Pos} (he : DE c X W e m) (hs : swapsWith e none pos.line X.env = pure false := by rfl) : DS c X W (.Expr e pos) (sDrop is m) := PS.weak (ps_expr he hs) fun σ H D h => by
  obtain ⟨n, p, Hd, ev, k, h⟩ := h
  refine st_expr (is := is) k ((Dr.all_bind.mp h).imp fun o q => ?_)
  obtain ⟨o, ev'⟩ := o
  cases o with
  | error x => exact fun p Hd' H' cls d k' xk => (show FlOk c W n D (.exc x ev') from q) p σ Hd' H' cls d k' xk
  | ok r => exact fun v p Hd' H' k' rk => (show FlOk c W n D (.next ev') from q) p σ Hd' H' k'
/-! ### if -/
def evT (is : List Nat) (t : Ev → M Bool) (ev : Ev) : Dr (Except Exn Bool) := t (frz is ev)
def sIf (is : List Nat) (t : Ev → M Bool) (a b : Ev → Dr Fl) (ev : Ev) : Dr Fl := Dr.bind (t (frz is ev)) fun
  | .ok x => if x = true then a ev else b ev
  | .error x => .ret (.exc x (frz is ev))
theorem st_test {n : En} {p : Option Addr} {Hd H : Hp} {σ : St} {ev : Ev} {is : List Nat} {t : Ev → M Bool} {Q : Bool → Hp → Prop} (k : SOk c n p Hd H σ ev)
    (h : (t (frz is ev)).All (Out (fun b => ∀ H', SOk c n p Hd H' σ ev → Q b H') fun x => ∀ p' Hd' H' cls d, SOk c n p' Hd' H' σ (frz is ev) → XOk c Hd' H' x cls d → W cls d σ H')) : RT c W t σ H Q := by
  obtain ⟨Hdf, kf, f⟩ := frz_ok is k
  refine ⟨p, Hdf, frz is ev, kf.ok, h.imp fun o q => ?_⟩
  cases o with
  | error x => exact fun cls d Hd' H' g xk => q p Hd' H' cls d (kf.step g) xk
  | ok b => exact fun Hd' H' g => q H' (k.thaw f g)
theorem ds_if {is : List Nat} {t : Expr} {a b : List Stmt} {mt : Ev → M Bool} {ma mb : Ev → Dr Fl} {pos : Pos} (ht : DT c X W t mt) (ha : DSs c X W a ma) (hb : DSs c X W b mb) : DS c X W (.If t a b pos) (sIf is mt ma mb) := PS.weak (ps_if ht ha hb) fun σ H D h => by
  obtain ⟨n, p, Hd, ev, k, h⟩ := h
  refine st_test (is := is) k ((Dr.all_bind.mp h).imp fun o q => ?_)
  cases o with
  | error x => exact fun p' Hd' H' cls d k' xk => (show FlOk c W n D (.exc x (frz is ev)) from q) p' σ Hd' H' cls d k' xk
  | ok b =>
    intro H' k'
    cases b with
    | true => exact ⟨n, p, Hd, ev, k', q⟩
    | false => exact ⟨n, p, Hd, ev, k', q⟩
/-! ### pass, break, continue -/
def sBrk (ev : Ev) : Dr Fl := .ret (.brk ev)
def sCont (ev : Ev) : Dr Fl := .ret (.cont ev)
theorem ds_pass {pos : Pos} : DS c X W (.Pass pos) sNil := PS.weak ps_pass fun σ H D h => by
  obtain ⟨n, p, Hd, ev, k, h⟩ := h
  exact (show FlOk c W n D (.next ev) from h) p σ Hd H k
theorem ds_brk {pos : Pos} : DS c X W (.Break pos) sBrk := PS.weak ps_break fun σ H D h => by
  obtain ⟨n, p, Hd, ev, k, h⟩ := h
  exact (show FlOk c W n D (.brk ev) from h) p σ Hd H k
theorem ds_cont {pos : Pos} : DS c X W (.Continue pos) sCont := PS.weak ps_continue fun σ H D h => by
  obtain ⟨n, p, Hd, ev, k, h⟩ := h
  exact (show FlOk c W n D (.cont ev) from h) p σ Hd H k
/-! ### for -/
def forL (T : Tg) (body : Ev → Dr Fl) : List D → Ev → Dr Fl
  | [], ev => .ret (.next ev)
  | d :: ds, ev => match bindT T d ev with
    | none => .fail
    | some ev1 => (body ev1).bind fun
      | .next ev2 => forL T body ds ev2
      | .cont ev2 => forL T body ds ev2
      | .brk ev2 => .ret (.next ev2)
      | f => .ret f
def sFor (is : List Nat) (T : Tg) (mi : Ev → M (List D)) (body : Ev → Dr Fl) (ev : Ev) : Dr Fl := Dr.bind (mi (frz is ev)) fun
  | .ok ds => forL T body ds (frz is ev)
  | .error x => .ret (.exc x (frz is ev))
theorem SOk.bind {n : En} {p : Option Addr} {Hd H : Hp} {σ : St} {ev ev' : Ev} {T : Tg} {v : V} {d : D} {Q : St → Hp → Prop} (k : SOk c n p Hd H σ ev) (r : Rp c Hd v d) (e : bindT T d ev = some ev') (q : ∀ σ', SOk c n p Hd H σ' ev' → Q σ' H) : gT c.K T v σ H Q := by
  have one : ∀ (σ : St) (ev : Ev) (v : V) (d : D) (i : Nat), SOk c n p Hd H σ ev → Rp c Hd v d → SOk c n p Hd H (σ.set i (some v)) (ev.set i (some (.dat d))) := fun σ ev v d i k r => k.set (r := .dat d) r i
  cases T with
  | one i =>
    cases e
    exact q _ (one σ ev v d i k r)
  | many is =>
    cases r with
    | @tup a xs ds ha rs =>
      simp only [bindT] at e
      split at e
      · rename_i hl
        cases e
        refine ⟨a, xs, rfl, same_t k.ok.same ha, by rw [rs.length]; exact hl, ?_⟩
        clear ha
        induction is generalizing σ ev xs ds with
        | nil =>
          cases rs with
          | nil => exact ⟨rfl, q σ k⟩
          | cons _ _ => simp at hl
        | cons i is ih =>
          cases rs with
          | nil => simp at hl
          | cons r1 r2 => exact ⟨_, _, rfl, ih (one _ _ _ _ i k r1) r2 (by simpa using hl) q⟩
      · cases e
    | _ => cases e
theorem ds_for {is : List Nat} {tg iter : Expr} {body : List Stmt} {T : Tg} {mi : Ev → M (List D)} {mb : Ev → Dr Fl} {pos : Pos} (hp : PassesOwn (model X.prog X.w) X.A X.env X.xe) (hc : X.calm = true) (hi : DI c X W tg iter mi) (hg : PG X tg (gT c.K T)) (hb : DSs c X W body mb)
    (hs : ∀ x, foldedSetIterable iter X.env x = pure x := by intro _; rfl) : DS c X W (.For tg iter body [] pos) (sFor is T mi mb) := PS.weak (ps_for hp hc hi hg hb hs) fun σ H D h => by
  obtain ⟨n, p, Hd, ev, k, h⟩ := h
  obtain ⟨Hdf, kf, f⟩ := frz_ok is k
  refine ⟨p, Hdf, frz is ev, kf.ok, (Dr.all_bind.mp h).imp fun o q => ?_⟩
  cases o with
  | error x => exact fun cls d Hd' H' g xk => (show FlOk c W n D (.exc x (frz is ev)) from q) p σ Hd' H' cls d (kf.step g) xk
  | ok ds =>
    intro J Hd1 H1 g1 wk
    have k1 := kf.step g1
    have q : (forL T mb ds (frz is ev)).All (FlOk c W n D) := q
    let n1 : En := { n with B := Hd1 }
    have up : ∀ {p' : Option Addr} {Hd' H' : Hp} {σ' : St} {ev' : Ev}, SOk c n1 p' Hd' H' σ' ev' → SOk c n p' Hd' H' σ' ev' := fun {p' Hd' H' σ' ev'} k' => ⟨k'.sm0, k'.pq0, k'.ok, k'.go, k1.base.trans k'.base, k'.fr, k'.pp⟩
    refine ⟨fun i m σ' H' => m + i = ds.length ∧ ∃ p' Hd' ev', SOk c n1 p' Hd' H' σ' ev' ∧ (forL T mb (ds.drop i) ev').All (FlOk c W n D),
      ⟨ds.length, rfl, p, Hd1, frz is ev, ⟨k1.sm0, k1.pq0, k1.ok, k1.go, Same.refl _, k1.fr, k1.pp⟩, q⟩, ?_⟩
    rintro i m σ' H' ⟨hm, p', Hd', ev', k', hA⟩
    obtain ⟨w1, w2⟩ := wk p' Hd' H' k'.base k'.ok.same k'.ok.pool
    by_cases hi : i < ds.length
    · have hd : ds[i]? = some ds[i] := by simp [hi]
      obtain ⟨go, yl⟩ := w1 i ds[i] hd
      rw [List.drop_eq_getElem_cons hi] at hA
      refine .inr ⟨go, fun σ2 H2 => ∃ p2 Hd2 ev2, SOk c n1 p2 Hd2 H2 σ2 ev2 ∧ (forL T mb (ds.drop (i + 1)) ev2).All (FlOk c W n D), fun σ2 H2 hN => ⟨m - 1, by omega, by omega, hN⟩, fun x H3 hy => ?_⟩
      obtain ⟨Hd3, g3, r3⟩ := yl x H3 hy
      have k3 := k'.step g3
      cases eb : bindT T ds[i] ev' with
      | none =>
        have e0 : forL T mb (ds[i] :: ds.drop (i + 1)) ev' = .fail := by
          unfold forL
          rw [eb]
        rw [e0] at hA
        exact (show False from hA).elim
      | some ev1 =>
        have e0 : forL T mb (ds[i] :: ds.drop (i + 1)) ev' = (mb ev1).bind fun
            | .next ev2 => forL T mb (ds.drop (i + 1)) ev2
            | .cont ev2 => forL T mb (ds.drop (i + 1)) ev2
            | .brk ev2 => .ret (.next ev2)
            | f => .ret f := by
          conv => lhs; unfold forL
          rw [eb]
        rw [e0] at hA
        refine k3.bind r3 eb fun σ4 k4 => ⟨n1, p', Hd3, ev1, k4, (Dr.all_bind.mp hA).imp fun fl q => ?_⟩
        cases fl with
        | next ev2 => exact fun p5 σ5 Hd5 H5 k5 => ⟨p5, Hd5, ev2, k5, q⟩
        | cont ev2 => exact fun p5 σ5 Hd5 H5 k5 => ⟨p5, Hd5, ev2, k5, q⟩
        | brk ev2 => exact fun p5 σ5 Hd5 H5 k5 => (show FlOk c W n D (.next ev2) from q) p5 σ5 Hd5 H5 (up k5)
        | ret r => exact fun v Hd5 H5 g5 r5 => (show FlOk c W n D (.ret r) from q) v Hd5 H5 g5 r5
        | exc x ev2 => exact fun p5 σ5 Hd5 H5 cls d k5 xk => (show FlOk c W n D (.exc x ev2) from q) p5 σ5 Hd5 H5 cls d (up k5) xk
    · have e : i = ds.length := by omega
      subst e
      rw [List.drop_length] at hA
      exact .inl ⟨w2, (show FlOk c W n D (.next ev') from hA) p' σ' Hd' H' (up k')⟩
/-! ### while: at most so many turns -/
def whileL (is : List Nat) (t : Ev → M Bool) (body : Ev → Dr Fl) : Nat → Ev → Dr Fl
  | 0, _ => .fail
  | k + 1, ev => Dr.bind (t (frz is ev)) fun
    | .error x => .ret (.exc x (frz is ev))
    | .ok b => if b = true then (body ev).bind fun
        | .next ev2 => whileL is t body k ev2
        | .cont ev2 => whileL is t body k ev2
        | .brk ev2 => .ret (.next ev2)
        | f => .ret f
      else .ret (.next ev)
theorem ds_while {is : List Nat} {k0 : Nat} {t : Expr} {body : List Stmt} {mt : Ev → M Bool} {mb : Ev → Dr Fl} {pos : Pos} (hp : PassesOwn (model X.prog X.w) X.A X.env X.xe) (ht : DT c X W t mt) (hb : DSs c X W body mb) : DS c X W (.While t body [] pos) (whileL is mt mb k0) := PS.weak (ps_while hp ht hb) fun σ H D h => by
  obtain ⟨n, p, Hd, ev, k, h⟩ := h
  refine ⟨fun m σ' H' => ∃ p' Hd' ev', SOk c n p' Hd' H' σ' ev' ∧ (whileL is mt mb m ev').All (FlOk c W n D), ⟨k0, p, Hd, ev, k, h⟩, ?_⟩
  rintro m σ' H' ⟨p', Hd', ev', k', hA⟩
  cases m with
  | zero => exact (show False from hA).elim
  | succ m =>
    refine st_test (is := is) k' ((Dr.all_bind.mp (show Dr.All _ (Dr.bind (mt (frz is ev')) _) from hA)).imp fun o q => ?_)
    cases o with
    | error x => exact fun p5 Hd5 H5 cls d k5 xk => (show FlOk c W n D (.exc x (frz is ev')) from q) p5 σ' Hd5 H5 cls d k5 xk
    | ok b =>
      intro H5 k5
      cases b with
      | false => exact (show FlOk c W n D (.next ev') from q) p' σ' Hd' H5 k5
      | true =>
        refine ⟨fun σ2 H2 => ∃ p2 Hd2 ev2, SOk c n p2 Hd2 H2 σ2 ev2 ∧ (whileL is mt mb m ev2).All (FlOk c W n D), fun σ2 H2 hN => ⟨m, Nat.lt_succ_self m, hN⟩, n, p', Hd', ev', k5, (Dr.all_bind.mp (show Dr.All _ ((mb ev').bind _) from q)).imp fun fl q => ?_⟩
        cases fl with
        | next ev2 => exact fun p5 σ5 Hd5 H5 k5 => ⟨p5, Hd5, ev2, k5, q⟩
        | cont ev2 => exact fun p5 σ5 Hd5 H5 k5 => ⟨p5, Hd5, ev2, k5, q⟩
        | brk ev2 => exact q
        | ret r => exact q
        | exc x ev2 => exact q
end
end PD

set_option Elab.async false
set_option linter.all false
set_option maxRecDepth 100000
set_option maxHeartbeats 1000000
set_option autoImplicit false
namespace PD
open PySem L2
section
variable {c : Cw} {X : Cx} {W : WX}
/-! ### x.append(e), x an own list -/
def isOwn : Option (Option Sl) → Bool
  | some (some (.own _)) => true
  | _ => false
def appD (i : Nat) (ev : Ev) (d : D) : Dr Fl := match ev[i]? with
  | some (some (.own ds)) => if ds.length < sizeLine then .ret (.next (ev.set i (some (.own (ds ++ [d]))))) else .fail
  | _ => .fail
def sApp (is : List Nat) (i : Nat) (m : Ev → M R) (ev : Ev) : Dr Fl := if isOwn ev[i]? then (evS is m ev).bind fun
  | (.ok r, ev') => appD i ev' r.d
  | (.error x, ev') => .ret (.exc x ev') else .fail
/-- what is new becomes data -/
theorem ress_dat {n : En} {p : Option Addr} {Hd H : Hp} {σ : St} {ev : Ev} {v : V} {r : R} (k : SOk c n p Hd H σ ev) (h : ResS c n p Hd H σ ev v r) : ∃ Hd', SOk c n p Hd' H σ ev ∧ Same Hd Hd' ∧ Rp c Hd' v r.d := by
  cases r with
  | dat d => exact ⟨Hd, k, Same.refl _, h⟩
  | own ds =>
    obtain ⟨l, vs, rfl, h0, nl, np, hl, rs, hne⟩ := h
    have sm : Same Hd (upd Hd l (.lst vs)) := fun b o h => by
      rw [upd_ne (ne_of_none h nl)]
      exact h
    have sm2 : Same (upd Hd l (.lst vs)) H := fun b o h => by
      by_cases hb : b = l
      · subst hb
        rw [upd_same] at h
        cases h
        exact hl
      · rw [upd_ne hb] at h
        exact k.ok.same b o h
    refine ⟨upd Hd l (.lst vs), ⟨k.sm0, k.pq0, ⟨sm2, fun a ha => ?_, k.ok.len, fun j s hs => ?_, k.ok.ne⟩, k.go.freeze h0 nl (k.np0 h0) hl, k.base.trans sm, k.fr, k.pp⟩, sm, .lst upd_same (rs.mono sm)⟩
    · obtain ⟨h1, x, y, h2⟩ := k.ok.pool a ha
      have : a ≠ l := fun z => np (by rw [← z]; exact ha)
      rw [upd_ne this]
      exact ⟨h1, x, y, h2⟩
    · obtain ⟨w, h1, h2⟩ := k.ok.sl j s hs
      refine ⟨w, h1, ?_⟩
      cases s with
      | dat d => exact Rp.mono sm h2
      | pool => exact h2
      | scr ns =>
        obtain ⟨a, q1, q3, q4⟩ := h2
        exact ⟨a, q1, sm.seq q3, q4⟩
      | exc x =>
        obtain ⟨a, dd, u, q1, q2, q3, q4, q5, q6⟩ := h2
        have : dd ≠ l := ne_of q5 hl (fun z => nomatch z)
        exact ⟨a, dd, u, q1, q2, by rw [upd_ne this]; exact q3, q4, q5, q6.mono sm⟩
      | own es =>
        obtain ⟨l', vs', rfl, q1, q2, q3, q4⟩ := h2
        have : l' ≠ l := fun z => by
          subst z
          exact hne j es hs h1
        exact ⟨l', vs', rfl, by rw [upd_ne this]; exact q1, q2, q3, q4.mono sm⟩
/-- an own list is written -/
theorem SOk.write {n : En} {p : Option Addr} {Hd H : Hp} {σ : St} {ev : Ev} {i : Nat} {ds es : List D} {l : Addr} {ws : List V} (k : SOk c n p Hd H σ ev) (e : ev[i]? = some (some (.own ds))) (e1 : σ[i]? = some (some (.ref l))) (r : Rps c Hd ws es) :
    SOk c n p Hd (upd H l (.lst ws)) σ (ev.set i (some (.own es))) := by
  obtain ⟨v, e1', l', vs, rfl, nl, np, hl, rs⟩ := k.ok.sl i _ e
  rw [e1] at e1'
  cases e1'
  have h0 := k.fr i ds l e e1
  have hi : i < ev.length := (List.getElem?_eq_some_iff.mp e).1
  have hin : ∀ (j : Nat) (s : Sl), (ev.set i (some (.own es)))[j]? = some (some s) → (i = j ∧ s = .own es) ∨ (i ≠ j ∧ ev[j]? = some (some s)) := fun j s e => by
    by_cases hj : i = j
    · subst hj
      rw [List.getElem?_set_self hi] at e
      cases e
      exact .inl ⟨rfl, rfl⟩
    · rw [List.getElem?_set_ne hj] at e
      exact .inr ⟨hj, e⟩
  have own : ∀ (j : Nat) (fs : List D), (ev.set i (some (.own es)))[j]? = some (some (.own fs)) → ∃ gs, ev[j]? = some (some (.own gs)) := fun j fs h => by
    rcases hin j _ h with ⟨rfl, _⟩ | ⟨_, h'⟩
    · exact ⟨ds, e⟩
    · exact ⟨fs, h'⟩
  refine ⟨k.sm0, k.pq0, ⟨fun b o h => ?_, fun a ha => ?_, by rw [List.length_set]; exact k.ok.len, fun j s hs => ?_, fun j1 j2 d1 d2 l' hne h1 h2 => ?_⟩, k.go.write h0 nl (k.np0 h0), k.base, fun j fs l' h1 h2 => ?_, k.pp⟩
  · rw [upd_ne (ne_of_none h nl)]
    exact k.ok.same b o h
  · obtain ⟨h1, x, y, h2⟩ := k.ok.pool a ha
    have : a ≠ l := fun z => np (by rw [← z]; exact ha)
    rw [upd_ne this]
    exact ⟨h1, x, y, h2⟩
  · rcases hin j s hs with ⟨rfl, rfl⟩ | ⟨hj, hs'⟩
    · exact ⟨_, e1, l, ws, rfl, nl, np, upd_same, r⟩
    · obtain ⟨w, h1, h2⟩ := k.ok.sl j s hs'
      refine ⟨w, h1, ?_⟩
      cases s with
      | dat d => exact h2
      | pool => exact h2
      | scr ns => exact h2
      | exc x =>
        obtain ⟨a, dd, u, q1, q2, q3, q4, q5, q6⟩ := h2
        have : dd ≠ l := ne_of q5 hl (fun z => nomatch z)
        exact ⟨a, dd, u, q1, q2, q3, q4, by rw [upd_ne this]; exact q5, q6⟩
      | own fs =>
        obtain ⟨l', vs', rfl, q1, q2, q3, q4⟩ := h2
        have : l' ≠ l := fun z => by
          subst z
          exact k.ok.ne i j ds fs l' hj e hs' e1 h1
        exact ⟨l', vs', rfl, q1, q2, by rw [upd_ne this]; exact q3, q4⟩
  · obtain ⟨g1, h1'⟩ := own j1 d1 h1
    obtain ⟨g2, h2'⟩ := own j2 d2 h2
    exact k.ok.ne j1 j2 g1 g2 l' hne h1' h2'
  · obtain ⟨g1, h1'⟩ := own j fs h1
    exact k.fr j g1 l' h1' h2
theorem isOwn_ex {o : Option (Option Sl)} (h : isOwn o = true) : ∃ ds, o = some (some (.own ds)) := by
  unfold isOwn at h
  split at h
  · exact ⟨_, rfl⟩
  · cases h
theorem ds_app {is : List Nat} (i : Nat) {x : Str} {e : Expr} {m : Ev → M R} {pos pa pc pn : Pos} (he : DE c X W e m) (hN : X.N[i]? = some x := by rfl) (hv : Vis X.env.scope x := by first | exact Or.inl rfl | exact Or.inr (Or.inl rfl) | exact Or.inr (Or.inr rfl))
    (hd : (x == ("__debug__" : Str)) = false := by decide) (hcd : (x == ("__classdict__" : Str)) = false := by decide) (hs : starEach [e] X.env = (false, eval e X.env) :: starEach [] X.env := by rfl)
    (hbase : attributeBase (.Name x pn) "append" X.env (eval (.Name x pn) X.env) = eval (.Name x pn) X.env := by rfl)
    (hfew : ((backTo pc (starEach [e] X.env)).all (fun x => !x.1) && (backToKw pc (keywordEach [] X.env)).all (fun x => x.1.isSome) && decide (([e] : List Expr).length + ([] : List Keyword).length + (if ([] : List Keyword).isEmpty then 0 else 1) < 30)) = true := by rfl)
    (hline : (pa.endLine == pc.line) = true := by rfl) :
    DS c X W (.Expr (.Call (.Attribute (.Name x pn) "append" pa) [e] [] pc) pos) (sApp is i m) := by
  refine PS.weak (ps_expr (pe_bm PySem.F.plainAttrs_list PySem.F.slot_list_append PySem.F.type_list_append mt_append (pe_var hN hv hd hcd) (pa_cons he pa_nil hs) hbase hfew hline hs)) fun σ H D h => ?_
  obtain ⟨n, p, Hd, ev, k, h⟩ := h
  unfold sApp at h
  split at h
  · rename_i ho
    obtain ⟨ds0, e0⟩ := isOwn_ex ho
    obtain ⟨v, e1, l, vs, rfl, nl, np, hl, rs⟩ := k.ok.sl i _ e0
    refine ⟨.ref l, e1, .inl ⟨rfl, vs, SqL.of hl⟩, ?_⟩
    refine st_expr (is := is) k ((Dr.all_bind.mp h).imp fun o q => ?_)
    obtain ⟨o, ev'⟩ := o
    cases o with
    | error x => exact fun p Hd' H' cls d k' xk => (show FlOk c W n D (.exc x ev') from q) p σ Hd' H' cls d k' xk
    | ok r =>
      intro y p' Hd' H' k' rk
      have q : (appD i ev' r.d).All (FlOk c W n D) := q
      unfold appD at q
      split at q
      · rename_i ds e2
        split at q
        · rename_i hz
          obtain ⟨Hd2, k2, sm, ry⟩ := ress_dat k' rk
          obtain ⟨v3, e3, l3, vs3, rfl, nl3, np3, hl3, rs3⟩ := k2.ok.sl i _ e2
          rw [e1] at e3
          cases e3
          refine ⟨l, vs3, y, rfl, rfl, hl3, by rw [rs3.length]; exact hz, ?_⟩
          exact (show FlOk c W n D (.next _) from q) p' σ Hd2 _ (k2.write e2 e1 (rs3.append (.cons ry .nil)))
        · exact q.elim
      · exact q.elim
  · exact h.elim

/-! ### a, b = x, y -/
/-- results side by side: each as it came, new lists apart -/
def ResL (c : Cw) (p : Option Addr) (H Hd' H' : Hp) : List V → List R → Prop
  | [], [] => True
  | v :: vs, r :: rs => ResOk c p H Hd' H' v r ∧ ResL c p H Hd' H' vs rs ∧ ∀ l ds, r = .own ds → v = .ref l → ∀ w es, (w, es) ∈ vs.zip rs → ∀ es', es = R.own es' → w ≠ .ref l
  | _, _ => False
def RL (c : Cw) (W : WX) (m : Ev → M (List R)) : TA := fun σ H Q => ∃ p Hd ev, Ok c p Hd H σ ev ∧ (m ev).All (Out (fun rs => ∀ vs Hd' H', Go p Hd H Hd' H' → ResL c p H Hd' H' vs rs → Q vs H') fun x => ∀ cls d Hd' H', Go p Hd H Hd' H' → XOk c Hd' H' x cls d → W cls d σ H')
abbrev DL (c : Cw) (X : Cx) (W : WX) (es : List Expr) (m : Ev → M (List R)) : Prop := PA X es (RL c W m)
def lNil (_ : Ev) : M (List R) := M.ok []
def lCons (m : Ev → M R) (ms : Ev → M (List R)) (ev : Ev) : M (List R) := (m ev).bind fun d => (ms ev).bind fun ds => M.ok (d :: ds)
theorem dl_nil : DL c X W [] lNil := PA.weak pa_nil fun σ H Q h => by
  obtain ⟨p, Hd, ev, k, h⟩ := h
  exact h [] Hd H k.refl trivial
theorem ResOk.later {p : Option Addr} {H0 Hd H Hd' H' : Hp} {v : V} {r : R} (g : Go p Hd H Hd' H') (h : ResOk c p H0 Hd H v r) : ResOk c p H0 Hd' H' v r := by
  cases r with
  | dat d => exact Rp.mono g.d h
  | own ds =>
    obtain ⟨l, vs, e, n0, n1, np, hl, rs⟩ := h
    exact ⟨l, vs, e, n0, (g.o l _ hl n1).1, np, (g.o l _ hl n1).2 np, rs.mono g.d⟩
theorem ResL.back {p : Option Addr} {Hd H Hd1 H1 Hd' H' : Hp} (sm : Same Hd H) (g : Go p Hd H Hd1 H1) : ∀ {vs : List V} {rs : List R}, ResL c p H1 Hd' H' vs rs → ResL c p H Hd' H' vs rs
  | [], [], _ => trivial
  | _ :: _, _ :: _, h => ⟨h.1.back sm g, ResL.back sm g h.2.1, h.2.2⟩
  | [], _ :: _, h => h.elim
  | _ :: _, [], h => h.elim
theorem ResL.own {p : Option Addr} {H Hd' H' : Hp} : ∀ {vs : List V} {rs : List R} {w : V} {es : List D}, ResL c p H Hd' H' vs rs → (w, R.own es) ∈ vs.zip rs → ∀ l, w = .ref l → H l = none
  | v :: vs, r :: rs, w, es, h, hm, l, hw => by
    rw [List.zip_cons_cons] at hm
    rcases List.mem_cons.mp hm with e | hm
    · cases e
      obtain ⟨l', vs', e, n0, _⟩ := h.1
      rw [hw] at e
      cases e
      exact n0
    · exact ResL.own h.2.1 hm l hw
  | [], _, _, _, _, hm, _, _ => by simp at hm
  | _ :: _, [], _, _, h, _, _, _ => h.elim
theorem dl_cons {e : Expr} {es : List Expr} {m : Ev → M R} {ms : Ev → M (List R)} (ha : DE c X W e m) (hr : DL c X W es ms) (hs : starEach (e :: es) X.env = (false, eval e X.env) :: starEach es X.env := by rfl) : DL c X W (e :: es) (lCons m ms) := PA.weak (pa_cons ha hr hs) fun σ H Q h => by
  obtain ⟨p, Hd, ev, k, h⟩ := h
  refine ⟨p, Hd, ev, k, (M.all_bind.mp h).imp fun o q => ?_⟩
  cases o with
  | error x => exact q
  | ok r =>
    intro v Hd1 H1 g1 r1
    have h2 := M.all_bind.mp (show Dr.All _ _ from q)
    refine ⟨p, Hd1, ev, k.go g1, h2.imp fun o q => ?_⟩
    cases o with
    | error x => exact xlater g1 q
    | ok rs =>
      intro vs Hd2 H2 g2 r2
      refine (show ∀ vs Hd' H', Go p Hd H Hd' H' → ResL c p H Hd' H' vs (r :: rs) → Q vs H' from q) (v :: vs) Hd2 H2 (g1.trans g2) ⟨r1.later g2, r2.back k.same g1, fun l ds er ev w es hm es' he hw => ?_⟩
      subst er ev he
      obtain ⟨l', vs', e, _, _, _, hl, _⟩ := r1
      cases e
      rw [r2.own hm l hw] at hl
      cases hl
def R.scs (rs : List R) : Bool := rs.all R.sc
def setRs : List Nat → List R → Ev → Option Ev
  | [], [], ev => some ev
  | i :: is, r :: rs, ev => setRs is rs (ev.set i (some r.sl))
  | _, _, _ => none
def sPar (is : List Nat) (sl : List Nat) (ms : Ev → M (List R)) (ev : Ev) : Dr Fl := Dr.bind (ms (frz is ev)) fun
  | .ok rs => match setRs sl rs (if R.scs rs then ev else frz is ev) with
    | some ev' => .ret (.next ev')
    | none => .fail
  | .error x => .ret (.exc x (frz is ev))
/-- results, at a statement -/
def RessL (c : Cw) (n : En) (p : Option Addr) (Hd H : Hp) (σ : St) (ev : Ev) : List V → List R → Prop
  | [], [] => True
  | v :: vs, r :: rs => ResS c n p Hd H σ ev v r ∧ RessL c n p Hd H σ ev vs rs ∧ ∀ l ds, r = .own ds → v = .ref l → ∀ w es, (w, es) ∈ vs.zip rs → ∀ es', es = R.own es' → w ≠ .ref l
  | _, _ => False
theorem ressL_set {n : En} {p : Option Addr} {Hd H : Hp} {i : Nat} {v : V} {r : R} : ∀ {vs : List V} {rs : List R} {σ : St} {ev : Ev}, RessL c n p Hd H σ ev vs rs → σ.length = ev.length → (∀ l ds, r = .own ds → v = .ref l → ∀ w es, (w, es) ∈ vs.zip rs → ∀ es', es = R.own es' → w ≠ .ref l) → (∀ ds, r = .own ds → ∃ l, v = .ref l) →
    RessL c n p Hd H (σ.set i (some v)) (ev.set i (some r.sl)) vs rs
  | [], [], _, _, _, _, _, _ => trivial
  | w :: vs, s :: rs, σ, ev, h, hl, hd, hv => by
    refine ⟨?_, ressL_set h.2.1 hl (fun l ds e1 e2 w' es hm => hd l ds e1 e2 w' es (List.mem_cons_of_mem _ hm)) hv, h.2.2⟩
    cases s with
    | dat d => exact h.1
    | own ds =>
      obtain ⟨l, us, e, h1, h2, h3, h4, h5, h6⟩ := h.1
      refine ⟨l, us, e, h1, h2, h3, h4, h5, fun j es he hσ => ?_⟩
      by_cases hj : i = j
      · subst hj
        by_cases hlt : i < ev.length
        · rw [List.getElem?_set_self hlt] at he
          rw [List.getElem?_set_self (by rw [hl]; exact hlt)] at hσ
          cases r with
          | dat d => cases he
          | own ds' => exact hd l ds' rfl (Option.some.inj (Option.some.inj hσ)) w (.own ds) (by rw [List.zip_cons_cons]; exact List.mem_cons_self) ds rfl e
        · rw [List.getElem?_eq_none (by rw [List.length_set]; omega)] at he
          cases he
      · rw [List.getElem?_set_ne hj] at he hσ
        exact h6 j es he hσ
  | [], _ :: _, _, _, h, _, _, _ => h.elim
  | _ :: _, [], _, _, h, _, _, _ => h.elim
theorem setRs_ok {n : En} {p : Option Addr} {Hd H : Hp} {Q : St → Hp → Prop} {ev' : Ev} : ∀ {sl : List Nat} {vs : List V} {rs : List R} {σ : St} {ev : Ev}, SOk c n p Hd H σ ev → RessL c n p Hd H σ ev vs rs → setRs sl rs ev = some ev' → (∀ σ', SOk c n p Hd H σ' ev' → Q σ' H) → gMany sl vs σ H Q
  | [], [], [], σ, ev, k, _, e, q => by
    cases e
    exact ⟨rfl, q σ k⟩
  | i :: sl, v :: vs, r :: rs, σ, ev, k, h, e, q => by
    refine ⟨v, vs, rfl, ?_⟩
    refine setRs_ok (k.set h.1 i) (ressL_set h.2.1 k.ok.len h.2.2 fun ds er => ?_) e q
    subst er
    obtain ⟨l, us, e, _⟩ := h.1
    exact ⟨l, e⟩
  | [], _ :: _, [], _, _, _, h, _, _ => h.elim
  | [], [], _ :: _, _, _, _, h, _, _ => h.elim
  | [], _ :: _, _ :: _, _, _, _, _, e, _ => by cases e
  | _ :: _, [], [], _, _, _, _, e, _ => by cases e
  | _ :: _, [], _ :: _, _, _, _, h, _, _ => h.elim
  | _ :: _, _ :: _, [], _, _, _, h, _, _ => h.elim
theorem resL_toS {n : En} {p : Option Addr} {Hd H Hd' H' : Hp} {σ : St} {ev : Ev} (k : SOk c n p Hd H σ ev) : ∀ {vs : List V} {rs : List R}, ResL c p H Hd' H' vs rs → RessL c n p Hd' H' σ ev vs rs
  | [], [], _ => trivial
  | v :: vs, r :: rs, h => by
    refine ⟨?_, resL_toS k h.2.1, h.2.2⟩
    cases r with
    | dat d => exact h.1
    | own ds =>
      obtain ⟨l, us, e, n1, n2, n3, n4, n5⟩ := h.1
      refine ⟨l, us, e, k.dom n1, n2, n3, n4, n5, fun i es he hσ => ?_⟩
      obtain ⟨w, h1, l', vs', rfl, _, _, h2, _⟩ := k.ok.sl i _ he
      rw [h1] at hσ
      cases hσ
      rw [n1] at h2
      cases h2
  | [], _ :: _, h => h.elim
  | _ :: _, [], h => h.elim
theorem ressL_sc {n : En} {p : Option Addr} {Hd Hd' H H' : Hp} {σ : St} {ev : Ev} : ∀ {vs : List V} {rs : List R}, ResL c p H Hd' H' vs rs → R.scs rs = true → RessL c n p Hd H' σ ev vs rs
  | [], [], _, _ => trivial
  | v :: vs, r :: rs, h, hs => by
    simp only [R.scs, List.all_cons, Bool.and_eq_true] at hs
    refine ⟨?_, ressL_sc h.2.1 hs.2, h.2.2⟩
    cases r with
    | own ds => cases hs.1
    | dat d =>
      have hd : d.sc = true := hs.1
      have rk' : Rp c Hd' v d := h.1
      show Rp c Hd v d
      cases rk' with
      | non => exact .non
      | bl b => exact .bl b
      | int b => exact .int b
      | str b => exact .str b
      | lst _ _ => cases hd
      | tup _ _ => cases hd
      | ins _ _ => cases hd
  | [], _ :: _, h, _ => h.elim
  | _ :: _, [], h, _ => h.elim
/-- the sets behind the evaluation of several -/
theorem spar_ok {is sl : List Nat} {ms : Ev → M (List R)} {n : En} {p : Option Addr} {Hd H : Hp} {σ : St} {ev : Ev} {D : Ends} (k : SOk c n p Hd H σ ev) (h : (sPar is sl ms ev).All (FlOk c W n D)) :
    RL c W ms σ H (fun vs H1 => ∃ p1 Hd1 ev1 rs ev2, SOk c n p1 Hd1 H1 σ ev1 ∧ RessL c n p1 Hd1 H1 σ ev1 vs rs ∧ setRs sl rs ev1 = some ev2 ∧ ∀ p' Hd' H' σ', SOk c n p' Hd' H' σ' ev2 → D.nx σ' H') := by
  obtain ⟨Hdf, kf, f⟩ := frz_ok is k
  refine ⟨p, Hdf, frz is ev, kf.ok, (Dr.all_bind.mp h).imp fun o q => ?_⟩
  cases o with
  | error x => exact fun cls d Hd' H' g xk => (show FlOk c W n D (.exc x (frz is ev)) from q) p σ Hd' H' cls d (kf.step g) xk
  | ok rs =>
    intro vs Hd1 H1 g1 r1
    have q : Dr.All (FlOk c W n D) (match setRs sl rs (if R.scs rs then ev else frz is ev) with
      | some ev' => .ret (.next ev')
      | none => .fail) := q
    split at q
    · rename_i ev' e
      cases hs : R.scs rs with
      | true =>
        rw [hs] at e
        exact ⟨p, Hd, ev, rs, ev', k.thaw f g1, ressL_sc r1 hs, e, fun p' Hd' H' σ' k' => (show FlOk c W n D (.next ev') from q) p' σ' Hd' H' k'⟩
      | false =>
        rw [hs] at e
        exact ⟨p, Hd1, frz is ev, rs, ev', kf.step g1, resL_toS kf r1, e, fun p' Hd' H' σ' k' => (show FlOk c W n D (.next ev') from q) p' σ' Hd' H' k'⟩
    · exact q.elim
/-- two plain local names -/
theorem ds_par {is : List Nat} {i j : Nat} {x y : Str} {a b : Expr} {ms : Ev → M (List R)} {px py pt pos : Pos} {kt k2 pt2} (hc : X.calm = true) (hN : X.N.Nodup) (hi : X.N[i]? = some x) (hj : X.N[j]? = some y) (hij : i ≠ j)
    (hx : X.env.scope.names.lookup x = some .local) (hy : X.env.scope.names.lookup y = some .local) (ha : DL c X W [a, b] ms)
    (hw : swappedStores [.Tuple [.Name x px, .Name y py] kt pt] (.Tuple [a, b] k2 pt2) X.env = pure (some [x, y]))
    (hs : swapsWithSole [.Tuple [.Name x px, .Name y py] kt pt] (.Tuple [a, b] k2 pt2) pos.line X.env = pure false := by rfl) :
    DS c X W (.Assign [.Tuple [.Name x px, .Name y py] kt pt] (.Tuple [a, b] k2 pt2) pos) (sPar is [i, j] ms) := PS.weak (ps_par hc hN hi hj hij hx hy ha hw hs) fun σ H D h => by
  obtain ⟨n, p, Hd, ev, k, h⟩ := h
  obtain ⟨p2, Hd2, ev2, k2, h2⟩ := spar_ok k h
  refine ⟨p2, Hd2, ev2, k2, h2.imp fun o q => ?_⟩
  cases o with
  | error x => exact q
  | ok rs =>
    intro vs Hd1 H1 g1 r1
    obtain ⟨p1, Hd3, ev1, rs', ev3, k3, r3, e3, q3⟩ := q vs Hd1 H1 g1 r1
    obtain ⟨v, r, rfl, w, r', rfl, rfl, hq⟩ := setRs_ok (sl := [i, j]) (Q := fun σ' H' => D.nx σ' H') k3 r3 e3 (fun σ' k' => q3 p1 Hd3 H1 σ' k')
    exact ⟨v, w, rfl, hq⟩
theorem RessL.later {n : En} {p : Option Addr} {Hd H Hd' H' : Hp} {σ : St} {ev : Ev} (g : Go p Hd H Hd' H') : ∀ {vs : List V} {rs : List R}, RessL c n p Hd H σ ev vs rs → RessL c n p Hd' H' σ ev vs rs
  | [], [], _ => trivial
  | v :: vs, r :: rs, h => by
    refine ⟨?_, RessL.later g h.2.1, h.2.2⟩
    cases r with
    | dat d => exact Rp.mono g.d h.1
    | own ds =>
      obtain ⟨l, us, e, h1, h2, h3, h4, h5, h6⟩ := h.1
      exact ⟨l, us, e, h1, (g.o l _ h4 h2).1, h3, (g.o l _ h4 h2).2 h3, h5.mono g.d, h6⟩
  | [], _ :: _, h => h.elim
  | _ :: _, [], h => h.elim
theorem RessL.length {n : En} {p : Option Addr} {Hd H : Hp} {σ : St} {ev : Ev} : ∀ {vs : List V} {rs : List R}, RessL c n p Hd H σ ev vs rs → vs.length = rs.length
  | [], [], _ => rfl
  | v :: vs, r :: rs, h => by rw [List.length_cons, List.length_cons, RessL.length h.2.1]
  | [], _ :: _, h => h.elim
  | _ :: _, [], h => h.elim
theorem setRs_len : ∀ {sl : List Nat} {rs : List R} {ev ev' : Ev}, setRs sl rs ev = some ev' → sl.length = rs.length
  | [], [], _, _, _ => rfl
  | _ :: sl, _ :: rs, _, _, h => by
    have e : sl.length = rs.length := setRs_len h
    simp [e]
  | [], _ :: _, _, _, h => by cases h
  | _ :: _, [], _, _, h => by cases h
/-- names by a tuple that is made and taken apart -/
theorem ds_parT {is sl : List Nat} {ts es : List Expr} {ms : Ev → M (List R)} {pt pos : Pos} {kt k2 : Nat} {pt2 : Pos} (hK : X.K = c.K) (ha : DL c X W es ms) (hg : PG X (.Tuple ts kt pt) (gT c.K (.many sl)))
    (hs : swapsWithSole [.Tuple ts kt pt] (.Tuple es k2 pt2) pos.line X.env = pure false := by rfl) (hw : swappedStores [.Tuple ts kt pt] (.Tuple es k2 pt2) X.env = pure none := by rfl)
    (h1 : (assignEach [.Tuple ts kt pt] X.env).map (·.2) = [assign (.Tuple ts kt pt) X.env] := by rfl) (hz : sl.length ≤ 1000 := by decide) :
    DS c X W (.Assign [.Tuple ts kt pt] (.Tuple es k2 pt2) pos) (sPar is sl ms) := PS.weak (ps_asg (pe_tup ha) hg hs hw h1) fun σ H D h => by
  obtain ⟨n, p, Hd, ev, k, h⟩ := h
  obtain ⟨p2, Hd2, ev2, k2, h2⟩ := spar_ok k h
  refine ⟨p2, Hd2, ev2, k2, h2.imp fun o q => ?_⟩
  cases o with
  | error x => exact q
  | ok rs =>
    intro vs Hd1 H1 g1 r1
    obtain ⟨p1, Hd3, ev1, rs', ev3, k3, r3, e3, q3⟩ := q vs Hd1 H1 g1 r1
    have hl : vs.length = sl.length := r3.length.trans (setRs_len e3).symm
    refine ⟨Nat.le_trans (by rw [hl]; exact hz) (by decide : 1000 ≤ sizeLine), fun a na => ?_⟩
    have g4 : Go p1 Hd3 H1 Hd3 (upd H1 a (.tup vs)) := Go.newOwn k3.ok.same k3.ok.pool na _
    exact ⟨a, vs, rfl, SqT.of upd_same, hl, setRs_ok (Q := fun σ' H' => D.nx σ' H') (k3.step g4) (r3.later g4) e3 fun σ' k' => q3 p1 Hd3 _ σ' k'⟩
end
end PD

set_option Elab.async false
set_option linter.all false
set_option maxRecDepth 100000
set_option maxHeartbeats 1000000
set_option autoImplicit false
namespace PD
open PySem L2
/-! ### defs -/
def Arg.sl : Arg → Sl
  | .dat d => .dat d
  | .pool => .pool
  | .scr ns => .scr ns
def startE (n : Nat) (as : List Arg) : Ev := as.map (fun a => some a.sl) ++ List.replicate (n - as.length) none
def flRet : Fl → M R
  | .next _ => M.ok (.dat .non)
  | .ret r => M.ok r
  | .exc x _ => .ret (.error x)
  | _ => .fail
def runF (n : Nat) (body : Ev → Dr Fl) (as : List Arg) : M R := Dr.bind (body (startE n as)) flRet
section
variable {c : Cw} {P : Program} {w : World} {mg : Str → Option Value} {base : Heap}
theorem start_ok {p : Option Addr} {Hd H : Hp} {N : List Str} {vs : List V} {as : List Arg} (sm : Same Hd H) (pq : PoolOk p Hd H) (ha : ArgsOk c p Hd vs as) : Ok c p Hd H (L2.start N vs) (startE N.length as) := by
  have hl := ha.length
  have get : ∀ (i : Nat) (s : Sl), (startE N.length as)[i]? = some (some s) → ∃ a v, as[i]? = some a ∧ vs[i]? = some v ∧ s = a.sl ∧ ArgOk c p Hd v a := fun i s e => by
    unfold startE at e
    by_cases hi : i < as.length
    · rw [List.getElem?_append_left (by rw [List.length_map]; exact hi), List.getElem?_map] at e
      have e2 : as[i]? = some as[i] := by simp [hi]
      rw [e2] at e
      cases e
      have pg : ∀ {vs : List V} {as : List Arg} {i : Nat} {a : Arg}, ArgsOk c p Hd vs as → as[i]? = some a → ∃ v, vs[i]? = some v ∧ ArgOk c p Hd v a := by
        intro vs as i a h
        induction h generalizing i with
        | nil => intro e; simp at e
        | cons r t ih =>
          intro e
          cases i with
          | zero =>
            simp at e
            subst e
            exact ⟨_, rfl, r⟩
          | succ i => exact ih (by simpa using e)
      obtain ⟨v, h1, h2⟩ := pg ha e2
      exact ⟨_, v, e2, h1, rfl, h2⟩
    · rw [List.getElem?_append_right (by rw [List.length_map]; omega)] at e
      have := List.getElem?_replicate (a := (none : Option Sl)) (n := N.length - as.length) (i := i - (as.map fun a => some a.sl).length)
      rw [this] at e
      split at e <;> cases e
  refine ⟨sm, pq, ?_, fun i s e => ?_, fun i j ds es l hne e1 => ?_⟩
  · unfold L2.start startE
    rw [List.length_append, List.length_append, List.length_map, List.length_map, List.length_replicate, List.length_replicate, hl]
  · obtain ⟨a, v, h1, h2, rfl, h3⟩ := get i s e
    refine ⟨v, ?_, ?_⟩
    · unfold L2.start
      rw [List.getElem?_append_left (by rw [List.length_map]; exact (List.getElem?_eq_some_iff.mp h2).1), List.getElem?_map, h2]
      rfl
    · cases a with
      | dat d => exact h3
      | pool => exact h3
      | scr ns => exact h3
  · obtain ⟨a, v, h1, h2, h3, h4⟩ := get i _ e1
    cases a <;> cases h3
theorem fn_ok {x qual : Str} {st : Stmt} {f : Addr} {fd : FuncData} {N ps : List Str} {k : Nat} {m : Ev → Dr Fl} (F : Fun c.K x qual st f fd) (S : FnScope N ps (defScope st))
    (hb : ∀ (cdv : Value) (A : Around) (outer : List Env) (s : Shared) (H : Hp) (E : XK), Room k (A.deeper (PyProof.Rows.envOfC qual (defScope st) s.heap.objs.size f cdv)) →
      DSs c (cxOf (L2.CX P w) P w c.K mg base N qual (defScope st) f cdv A outer s H E) (fun cls d _ H => E cls d H) (defBody st) m) :
    FnOk P w c.K mg base (L2.CX P w) (k + 1) f fd ps (spD c ps.length (runF N.length m)) := by
  refine F.okX S (fun vs H Q E h => spD_len vs H Q E h) fun cdv A outer s H vs Q E hr h => ⟨_, hb cdv A outer s H E hr, ?_⟩
  obtain ⟨p, Hd, as, sm, pq, ha, hl, hA⟩ := h
  refine ⟨⟨p, Hd, H, Hd⟩, p, Hd, startE N.length as, ⟨sm, pq, start_ok sm pq ha, Go.refl sm pq, Same.refl _, fun i ds l e _ => ?_, .inl rfl⟩, (Dr.all_bind.mp hA).imp fun fl q => ?_⟩
  · have : ∀ (i : Nat) (ds : List D), (startE N.length as)[i]? ≠ some (some (.own ds)) := fun i ds e => by
      unfold startE at e
      by_cases hi : i < as.length
      · rw [List.getElem?_append_left (by rw [List.length_map]; exact hi), List.getElem?_map] at e
        cases e2 : as[i]? with
        | none =>
          rw [e2] at e
          cases e
        | some a =>
          rw [e2] at e
          cases a <;> cases e
      · rw [List.getElem?_append_right (by rw [List.length_map]; omega), List.getElem?_replicate] at e
        split at e <;> cases e
    exact absurd e (this i ds)
  · cases fl with
    | next ev => exact fun p' σ' Hd' H' k' => (show ∀ v Hd' H', Go p Hd H Hd' H' → ResOk c p H Hd' H' v (.dat .non) → Q v H' from q) .non Hd' H' k'.go .non
    | ret r => exact q
    | brk ev => exact (show False from q).elim
    | cont ev => exact (show False from q).elim
    | exc x ev => exact fun p' σ' Hd' H' cls d k' xk => (show ∀ cls d Hd' H', Go p Hd H Hd' H' → XOk c Hd' H' x cls d → E cls d H' from q) cls d Hd' H' k'.go xk
/-! ### draws -/
def PoolIs (H : Hp) (a : Addr) : Prop := ∃ x y : Int, H a = some (.lst [.int x, .int y]) ∧ 0 ≤ x ∧ 0 ≤ y ∧ y < 2147483647
def spTake : Sp := fun vs H Q _ => ∃ (a : Addr) (n : Int), vs = [.ref a, .int n] ∧ PoolIs H a ∧ 0 < n ∧ n ≤ 1000000 ∧ ∀ (r x y : Int), 0 ≤ r → r < n → 0 ≤ x → 0 ≤ y → y < 2147483647 → Q (.int r) (upd H a (.lst [.int x, .int y]))
def fTake : List Arg → M R
  | [.pool, .dat (.int n)] => if 0 < n ∧ n ≤ 1000000 then .take n.toNat fun r => M.ok (.dat (.int (r : Int))) else .fail
  | _ => .fail
theorem take_ok {f : Addr} {fd : FuncData} {k : Nat} {ps : List Str} (G : FnOk P w c.K mg base (L2.CX P w) k f fd ps spTake) : FnOk P w c.K mg base (L2.CX P w) k f fd ps (spD c 2 fTake) := G.imp fun vs H Q E h => by
  obtain ⟨p, Hd, as, sm, pq, ha, hl, hA⟩ := h
  unfold fTake at hA
  split at hA
  · rename_i n
    cases ha with
    | cons h1 h2 =>
    obtain ⟨a, hp, rfl⟩ := h1
    cases h2 with
    | cons h3 h4 =>
    cases h4
    cases (show Rp c Hd _ (.int n) from h3)
    have hA' := hA
    split at hA'
    · rename_i hn
      obtain ⟨hd, x, y, e, hx, hy, hy2⟩ := pq a hp
      refine ⟨a, n, rfl, ⟨x, y, e, hx, hy, hy2⟩, hn.1, hn.2, fun r x' y' h0 h1 hx' hy' hy2' => ?_⟩
      have hr := hA'.2.2 r.toNat (by omega)
      have er : ((r.toNat : Nat) : Int) = r := by omega
      have q : ∀ v Hd' H', Go p Hd H Hd' H' → ResOk c p H Hd' H' v (.dat (.int ((r.toNat : Nat) : Int))) → Q v H' := hr
      rw [er] at q
      refine q _ Hd _ ⟨Same.refl _, fun b o hb => ?_, fun b u hb m => ⟨m, fun np => ?_⟩, fun b hb => ?_⟩ (.int _)
      · rw [upd_ne (ne_of_none hb hd)]
        exact sm b o hb
      · have : b ≠ a := fun z => np (by rw [z]; exact hp)
        rw [upd_ne this]
        exact hb
      · rw [hp] at hb
        cases hb
        exact ⟨hd, x', y', upd_same, hx', hy', hy2'⟩
    · exact hA'.elim
  · exact hA.elim
/-! ### a new pool -/
def spPool (K : PySem.W.Frag) : Sp := fun vs H Q _ => ∃ (a : Addr) (ns : List Int) (k : Int), vs = [.ref a, .int k] ∧ SqL K H a (ns.map V.int) ∧ ns.length ≤ 63 ∧ 0 ≤ k ∧ k ≤ 1000 ∧
  ∀ (q : Addr) (x y : Int), H q = none → 0 ≤ x → 0 ≤ y → y < 2147483647 → Q (.ref q) (upd H q (.lst [.int x, .int y]))
def noPool (i : Nat) (ev : Ev) : Bool := (ev.set i none).all fun s => match s with
  | some .pool => false
  | _ => true
def isScr : Option (Option Sl) → Bool
  | some (some (.scr _)) => true
  | _ => false
def okIx : D → Bool
  | .int k => decide (0 ≤ k ∧ k ≤ 1000)
  | _ => false
def sPool (i j : Nat) (mk : Ev → M R) (ev : Ev) : Dr Fl := if noPool i ev && isScr ev[j]? then Dr.bind (noX (mD mk ev)) fun
  | .ok d => if okIx d then .ret (.next (ev.set i (some .pool))) else .fail
  | .error _ => .fail else .fail
end
section
variable {c : Cw} {X : Cx} {W : WX}
theorem ds_pool {i j : Nat} {x sx g : Str} {k : Nat} {f : Addr} {fd : FuncData} {ps : List Str} {e : Expr} {mk : Ev → M R} {pn pos pos' ps1 pc : Pos} (hK : X.K = c.K) (G : FnOk X.prog X.w X.K X.mg X.base (L2.CX X.prog X.w) k f fd ps (spPool X.K)) (hr : Room k X.A) (hg : Gl X g) (hm : X.mg g = some (.ref f))
    (hk : PySem.W.keepIn X.K (.ref f) = true) (hb : Binds X.K fd ps []) (tk : Takes X W) (hN : X.N.Nodup) (hi : X.N[i]? = some x) (hx : Loc X.env.scope x) (he : DE c X WF e mk) (hj : X.N[j]? = some sx := by rfl)
    (hv : Vis X.env.scope sx := by first | exact Or.inl rfl | exact Or.inr (Or.inl rfl) | exact Or.inr (Or.inr rfl)) (hd : (sx == ("__debug__" : Str)) = false := by decide) (hcd : (sx == ("__classdict__" : Str)) = false := by decide)
    (hdb : (g == ("__debug__" : Str)) = false := by decide) (he1 : starEach [.Name sx ps1, e] X.env = (false, eval (.Name sx ps1) X.env) :: starEach [e] X.env := by rfl) (he2 : starEach [e] X.env = (false, eval e X.env) :: starEach [] X.env := by rfl)
    (hpl : (backTo pc (starEach [e] X.env)).any (·.1) = false := by rfl) (hs : swapsWith (.Call (.Name g pn) [.Name sx ps1, e] [] pc) (some (.Name x pos')) pos.line X.env = pure false := by rfl)
    (hf : X.fn x = true ∨ X.env.scope.names.lookup x = some .local := by first | exact .inl rfl | exact .inr rfl | assumption) :
    DS c X W (.Assign [.Name x pos'] (.Call (.Name g pn) [.Name sx ps1, e] [] pc) pos) (sPool i j mk) := by
  refine PS.weak (ps_set hN hi hx (pe_callS G hr hg hm hk hb (fun σ => passAt tk σ) (pa_cons (pe_var hj hv hd hcd) (pa_cons he pa_nil he2) he1) hdb he1 hpl) hs hf) fun σ H D h => ?_
  obtain ⟨n, p, Hd, ev, k0, h⟩ := h
  unfold sPool at h
  split at h
  · rename_i hc
    simp only [Bool.and_eq_true] at hc
    obtain ⟨ns, es⟩ : ∃ ns, ev[j]? = some (some (.scr ns)) := by
      have := hc.2
      unfold isScr at this
      split at this
      · exact ⟨_, by assumption⟩
      · cases this
    obtain ⟨v, e1, a, rfl, hS, hl⟩ := k0.ok.sl j _ es
    refine ⟨.ref a, e1, ?_⟩
    have hA := all_noX.mp (show Dr.All (Out (fun d => Dr.All (FlOk c W n D) (if okIx d then .ret (.next (ev.set i (some .pool))) else .fail)) fun _ => False) (noX (mD mk ev)) from (Dr.all_bind.mp h).imp fun o q => by
      cases o with
      | ok d => exact q
      | error x => exact q)
    refine re_then k0.ok (hA.imp fun o q => ?_)
    cases o with
    | error x => exact fun _ _ _ _ _ _ => q
    | ok d =>
      intro v Hd1 H1 g1 r1
      have q' : Dr.All (FlOk c W n D) (if okIx d then .ret (.next (ev.set i (some .pool))) else .fail) := q
      split at q'
      · rename_i hd
        cases r1 with
        | int kk =>
          have hd : 0 ≤ kk ∧ kk ≤ 1000 := of_decide_eq_true hd
          have k1 := k0.step g1
          refine ⟨a, ns, kk, rfl, by rw [hK]; exact g1.s.seq (g1.d.seq hS), hl, hd.1, hd.2, fun q x y nq h0 h1 h2 => ?_⟩
          refine (show FlOk c W n D (.next (ev.set i (some .pool))) from q') (some q) _ Hd1 _ ?_
          have nq1 : Hd1 q = none := k1.ok.same.free nq
          have get : ∀ (j : Nat) (s : Sl), (ev.set i (some .pool))[j]? = some (some s) → (i = j ∧ i < ev.length ∧ s = .pool) ∨ (i ≠ j ∧ ev[j]? = some (some s) ∧ s ≠ .pool) := fun j s e => by
            by_cases hj : i = j
            · subst hj
              by_cases hl : i < ev.length
              · rw [List.getElem?_set_self hl] at e
                cases e
                exact .inl ⟨rfl, hl, rfl⟩
              · rw [List.getElem?_eq_none (by rw [List.length_set]; omega)] at e
                cases e
            · rw [List.getElem?_set_ne hj] at e
              refine .inr ⟨hj, e, fun z => ?_⟩
              subst z
              have np := hc.1
              unfold noPool at np
              rw [List.all_eq_true] at np
              have mem : some Sl.pool ∈ ev.set i none := List.mem_of_getElem? (i := j) (by rw [List.getElem?_set_ne hj]; exact e)
              have := np _ mem
              cases this
          have own : ∀ (j : Nat) (ds : List PD.D), (ev.set i (some .pool))[j]? = some (some (.own ds)) → i ≠ j ∧ ev[j]? = some (some (.own ds)) := fun j ds e => by
            rcases get j _ e with ⟨_, _, z⟩ | ⟨h1, h2, _⟩
            · cases z
            · exact ⟨h1, h2⟩
          have gg : Go n.p0 n.Hd0 n.H0 Hd1 (upd H1 q (.lst [.int x, .int y])) := k1.goes (Go.newOwn k1.ok.same k1.ok.pool nq _)
          refine ⟨k1.sm0, k1.pq0, ⟨gg.s, fun b hb => ?_, by rw [List.length_set, List.length_set]; exact k1.ok.len, fun j s e => ?_, fun j1 j2 ds es l hne e1 e2 => ?_⟩, gg, k1.base, fun j ds l e h => ?_, .inr fun b hb => ?_⟩
          · cases hb
            exact ⟨nq1, x, y, upd_same, h0, h1, h2⟩
          · rcases get j s e with ⟨rfl, hl, rfl⟩ | ⟨hj, e', hs⟩
            · exact ⟨_, List.getElem?_set_self (by rw [k1.ok.len]; exact hl), q, rfl, rfl⟩
            · rw [List.getElem?_set_ne hj]
              obtain ⟨w, w1, w2⟩ := k1.ok.sl j s e'
              refine ⟨w, w1, ?_⟩
              cases s with
              | dat d => exact w2
              | pool => exact absurd rfl hs
              | scr ns => exact w2
              | exc z =>
                obtain ⟨a, dd, u, q1, q2, q3, q4, q5, q6⟩ := w2
                have : dd ≠ q := ne_of_none q5 nq
                exact ⟨a, dd, u, q1, q2, q3, fun z => this (Option.some.inj z).symm, by rw [upd_ne this]; exact q5, q6⟩
              | own ds =>
                obtain ⟨l, vs, z1, z2, z3, z4, z5⟩ := w2
                have : l ≠ q := ne_of_none z4 nq
                exact ⟨l, vs, z1, z2, fun z => this (Option.some.inj z).symm, by rw [upd_ne this]; exact z4, z5⟩
          · obtain ⟨a1, b1⟩ := own j1 ds e1
            obtain ⟨a2, b2⟩ := own j2 es e2
            rw [List.getElem?_set_ne a1, List.getElem?_set_ne a2]
            exact k1.ok.ne j1 j2 ds es l hne b1 b2
          · obtain ⟨a1, b1⟩ := own j ds e
            rw [List.getElem?_set_ne a1] at h
            exact k1.fr j ds l b1 h
          · cases hb
            exact k1.dom nq
        | _ => cases hd
      · exact q'.elim
  · exact h.elim
/-! ### len(script) -/
def mLenS (i : Nat) (ev : Ev) : M R := match ev[i]? with
  | some (some (.scr ns)) => M.ok (.dat (.int (ns.length : Int)))
  | _ => .fail
theorem de_lenS (i : Nat) {x : Str} {pn pos pc : Pos} (hK : X.K = c.K) (hg : Gl X "len") (hm : X.mg "len" = none) (hN : X.N[i]? = some x := by rfl) (hv : Vis X.env.scope x := by first | exact Or.inl rfl | exact Or.inr (Or.inl rfl) | exact Or.inr (Or.inr rfl)) (hd : (x == ("__debug__" : Str)) = false := by decide)
    (hcd : (x == ("__classdict__" : Str)) = false := by decide) : DE c X W (.Call (.Name "len" pn) [.Name x pos] [] pc) (mLenS i) := by
  refine PE.weak (pe_callB call_len_seq hg hm boot_len (pa_cons (pe_var hN hv hd hcd) pa_nil)) fun σ H Q h => ?_
  obtain ⟨p, Hd, ev, k, h⟩ := h
  unfold mLenS at h
  split at h
  · rename_i ns e
    obtain ⟨v, e1, a, rfl, hS, hl⟩ := k.sl i _ e
    refine ⟨_, e1, a, _, rfl, .inl (by rw [hK]; exact k.same.seq hS), ?_⟩
    have := h (.int (ns.length : Int)) Hd H k.refl (.int _)
    rw [List.length_map]
    exact this
  · exact h.elim
end
/-! ### the law's end -/
def spEnd (K : PySem.W.Frag) : Sp := fun vs H Q _ => ∃ (a : Addr) (ns : List Int), vs = [.ref a] ∧ SqL K H a (ns.map V.int) ∧ ns.length ≤ 63 ∧ ∀ H', Q (.bl true) H'
def isYes (o : Except Exn R) : Prop := o = .ok (.dat (.bl true))
theorem end_ok {c : Cw} {P : Program} {w : World} {mg : Str → Option Value} {base : Heap} {k : Nat} {f : Addr} {fd : FuncData} {ps : List Str} {F : List Arg → M R} (G : FnOk P w c.K mg base (L2.CX P w) k f fd ps (spD c 1 F)) (h : ∀ ns : List Int, ns.length ≤ 63 → (F [.scr ns]).All isYes) :
    FnOk P w c.K mg base (L2.CX P w) k f fd ps (spEnd c.K) := G.imp fun vs H Q E q => by
  obtain ⟨a, ns, rfl, hS, hl, q⟩ := q
  refine ⟨none, H, [.scr ns], Same.refl _, (fun a z => nomatch z), .cons ⟨a, rfl, hS, hl⟩ .nil, rfl, (h ns hl).imp fun o e => ?_⟩
  cases e
  intro v Hd' H' g rk
  cases (show Rp c Hd' v (.bl true) from rk)
  exact q H'
end PD

set_option Elab.async false
set_option linter.all false
set_option maxRecDepth 100000
set_option maxHeartbeats 1000000
set_option autoImplicit false
namespace PD
open PySem L2
/-! ### the world of a suite -/
abbrev Cw.at (c : Cw) (s : Option (Addr × Value × Addr)) : Cw := { c with sx := s }
mutual
theorem Rp.sx {c : Cw} {s : Option (Addr × Value × Addr)} {H : Hp} : ∀ {v : V} {d : D}, Rp c H v d → Rp (c.at s) H v d
  | _, _, .non => .non
  | _, _, .bl b => .bl b
  | _, _, .int i => .int i
  | _, _, .str x => .str x
  | _, _, .lst h r => .lst h (Rps.sx r)
  | _, _, .tup h r => .tup h (Rps.sx r)
  | _, _, .ins h r => .ins h (Rpf.sx r)
theorem Rps.sx {c : Cw} {s : Option (Addr × Value × Addr)} {H : Hp} : ∀ {v : List V} {d : List D}, Rps c H v d → Rps (c.at s) H v d
  | _, _, .nil => .nil
  | _, _, .cons a b => .cons (Rp.sx a) (Rps.sx b)
theorem Rpf.sx {c : Cw} {s : Option (Addr × Value × Addr)} {H : Hp} : ∀ {v : List (Str × V)} {d : List (Str × D)}, Rpf c H v d → Rpf (c.at s) H v d
  | _, _, .nil => .nil
  | _, _, .cons a b => .cons (Rp.sx a) (Rpf.sx b)
end
theorem Rp.unsx {c : Cw} {s : Option (Addr × Value × Addr)} {H : Hp} {v : V} {d : D} (h : Rp (c.at s) H v d) : Rp c H v d := Rp.sx (c := c.at s) (s := c.sx) h
theorem Rps.unsx {c : Cw} {s : Option (Addr × Value × Addr)} {H : Hp} {v : List V} {d : List D} (h : Rps (c.at s) H v d) : Rps c H v d := Rps.sx (c := c.at s) (s := c.sx) h
def isExc : Option Sl → Bool
  | some (.exc _) => true
  | _ => false
def noExc (ev : Ev) : Bool := ev.all fun s => !isExc s
theorem noExc_get {ev : Ev} (h : noExc ev = true) {i : Nat} {x : Exn} : ev[i]? ≠ some (some (.exc x)) := fun e => by
  unfold noExc at h
  rw [List.all_eq_true] at h
  have := h _ (List.mem_of_getElem? e)
  cases this
theorem SOk.sx {c : Cw} {s : Option (Addr × Value × Addr)} {n : En} {p : Option Addr} {Hd H : Hp} {σ : St} {ev : Ev} (k : SOk c n p Hd H σ ev) (h : noExc ev = true) : SOk (c.at s) n p Hd H σ ev :=
  ⟨k.sm0, k.pq0, ⟨k.ok.same, k.ok.pool, k.ok.len, fun i sl e => by
    obtain ⟨v, h1, h2⟩ := k.ok.sl i sl e
    refine ⟨v, h1, ?_⟩
    cases sl with
    | dat d => exact Rp.sx h2
    | pool => exact h2
    | scr ns => exact h2
    | exc x => exact absurd e (noExc_get h)
    | own ds =>
      obtain ⟨l, vs, q0, q1, q2, q3, q4⟩ := h2
      exact ⟨l, vs, q0, q1, q2, q3, q4.sx⟩, k.ok.ne⟩, k.go, k.base, k.fr, k.pp⟩
theorem SOk.put {c : Cw} {n : En} {p : Option Addr} {Hd H : Hp} {σ : St} {ev : Ev} (k : SOk c n p Hd H σ ev) {i : Nat} {v : V} {s : Sl} (hs : SlOk c p Hd H v s) (hn : ∀ ds, s ≠ .own ds) : SOk c n p Hd H (σ.set i (some v)) (ev.set i (some s)) :=
  ⟨k.sm0, k.pq0, k.ok.set hs hn, k.go, k.base, fun j ds l e h => by
    by_cases hj : i = j
    · subst hj
      by_cases hl : i < ev.length
      · rw [List.getElem?_set_self hl] at e
        cases e
        exact absurd rfl (hn ds)
      · rw [List.getElem?_eq_none (by rw [List.length_set]; omega)] at e
        cases e
    · rw [List.getElem?_set_ne hj] at e h
      exact k.fr j ds l e h, k.pp⟩
theorem SOk.drop {c : Cw} {n : En} {p : Option Addr} {Hd H : Hp} {σ : St} {ev : Ev} (k : SOk c n p Hd H σ ev) (i : Nat) (o : Option V) : SOk c n p Hd H (σ.set i o) (ev.set i none) :=
  ⟨k.sm0, k.pq0, k.ok.drop i o, k.go, k.base, fun j ds l e h => by
    by_cases hj : i = j
    · subst hj
      by_cases hl : i < ev.length
      · rw [List.getElem?_set_self hl] at e
        cases e
      · rw [List.getElem?_eq_none (by rw [List.length_set]; omega)] at e
        cases e
    · rw [List.getElem?_set_ne hj] at e h
      exact k.fr j ds l e h, k.pp⟩
section
variable {c : Cw} {X : Cx} {W : WX}
/-! ### raise C(e) -/
/-- C's own __init__ stores its one argument under f -/
def spXI (C : Addr) (f : Str) : Sp := fun vs H Q _ => ∃ (a : Addr) (v : V), vs = [.ref a, v] ∧ H a = some (exo a C none) ∧ ∀ dx, H dx = none → dx ≠ a → Q .non (upd (upd H dx (exd dx [(f, v)])) a (exo a C (some dx)))
theorem xinit_ok {P : Program} {w : World} {K : PySem.W.Frag} {mg : Str → Option Value} {base : Heap} {qual f : Str} {st : Stmt} {fI C : Addr} {fd : FuncData} {q1 q2 q3 q4 : Pos} (F : Fun K "__init__" qual st fI fd) (S : FnScope ["self", f] ["self", f] (defScope st))
    (hb : defBody st = [.Assign [.Attribute (.Name "self" q1) f q2] (.Name f q3) q4]) (T : OexC K C) (hno : PySem.W.findIn K (.ref C) f = some none) (h0 : (defScope st).names.lookup ("self" : Str) = some .local) (h1 : (defScope st).names.lookup f = some .local)
    (hd : (f == ("__debug__" : Str)) = false := by decide) (hcd : (f == ("__classdict__" : Str)) = false := by decide) : FnOk P w K mg base (L2.CX P w) 1 fI fd ["self", f] (spXI C f) := by
  refine F.okX S (fun vs H Q E h => ?_) fun cdv A outer s H vs Q E hr h => ?_
  · obtain ⟨a, v, rfl, _⟩ := h
    rfl
  · obtain ⟨a, v, rfl, ha, q⟩ := h
    rw [hb]
    refine ⟨_, pss_one (ps_ost (pe_var (i := 0) rfl (.inl h0)) (pe_var (i := 1) rfl (.inl h1) hd hcd)), ?_⟩
    exact ⟨v, rfl, .ref a, rfl, a, C, rfl, T, hno, .inl ⟨ha, fun dx n ne => q dx n ne⟩⟩
def sRaise (is : List Nat) (i : Nat) (m : Ev → M R) (ev : Ev) : Dr Fl := (evS is m ev).bind fun
  | (.ok r, ev') => .ret (.exc ⟨i, r.d⟩ ev')
  | (.error x, ev') => .ret (.exc x ev')
theorem ds_raise {is : List Nat} {i : Nat} {x : Str} {fI : Addr} {k : Nat} {fd : FuncData} {ps : List Str} {e : Expr} {m : Ev → M R} {pn pos pc : Pos} (hc : X.calm = true) (tk : Takes X W) (T : OexC X.K (c.xc i)) (iC : PySem.W.findIn X.K (.ref (c.xc i)) "__init__" = some (some (.ref fI)))
    (tI : PySem.W.typeIn X.K (.ref fI) = some (.type "function")) (F1 : FnOk X.prog X.w X.K X.mg X.base (L2.CX X.prog X.w) k fI fd ps (spXI (c.xc i) (c.xf i))) (hr : Room (k + 1) X.A) (hb : Binds X.K fd ps []) (hg : Gl X x) (hm : X.mg x = some (.ref (c.xc i))) (he : DE c X W e m)
    (hdb : (x == ("__debug__" : Str)) = false := by decide) (hs : starEach [e] X.env = (false, eval e X.env) :: starEach [] X.env := by rfl) : DS c X W (.Raise (some (.Call (.Name x pn) [e] [] pc)) none pos) (sRaise is i m) := by
  have hx : Passes (L2.CX X.prog X.w) X (fun _ _ _ => False) := fun _ _ _ _ _ _ _ h => by
    obtain ⟨_, _, _, _, _, _, _, _, _, _, _, _, z⟩ := h
    exact z.elim
  refine PS.weak (ps_raise hc tk (pmk_oex T iC tI F1 hr hb .nil hx hg hm (pa_cons he pa_nil hs) hdb hs)) fun σ H D h => ?_
  obtain ⟨n, p, Hd, ev, k, h⟩ := h
  refine st_expr (is := is) k ((Dr.all_bind.mp h).imp fun o q => ?_)
  obtain ⟨o, ev'⟩ := o
  cases o with
  | error x => exact fun p Hd' H' cls d k' xk => (show FlOk c W n D (.exc x ev') from q) p σ Hd' H' cls d k' xk
  | ok r =>
    intro v p' Hd' H' k' rk
    obtain ⟨Hd2, k2, sm, ry⟩ := ress_dat k' rk
    refine ⟨by show 1 ≤ 1000; decide, fun a na => ⟨a, v, rfl, upd_same, fun dx nd ne => ⟨rfl, dx, [(c.xf i, v)], upd_same, by rw [upd_ne ne, upd_same], ?_, ?_⟩⟩⟩
    · rw [upd_ne ne] at nd
      exact nd
    · have nd' : H' dx = none := by
        rw [upd_ne ne] at nd
        exact nd
      have eH : upd (del (upd (upd (upd H' a (exo a (c.xc i) none)) dx (exd dx [(c.xf i, v)])) a (exo a (c.xc i) (some dx))) a) dx (.xd [(c.xf i, v)]) = upd H' dx (.xd [(c.xf i, v)]) := by
        funext b
        by_cases h1 : b = dx
        · subst h1
          rw [upd_same, upd_same]
        · rw [upd_ne h1, upd_ne h1]
          by_cases h2 : b = a
          · subst h2
            rw [del_same, na]
          · rw [del_ne h2, upd_ne h2, upd_ne h1, upd_ne h2]
      rw [eH]
      have g := Go.newOwn k2.ok.same k2.ok.pool nd' (.xd [(c.xf i, v)])
      exact (show FlOk c W n D (.exc ⟨i, r.d⟩ ev') from q) p' σ Hd2 _ _ _ (k2.step g) ⟨dx, v, rfl, rfl, upd_same, k2.ok.same.free nd', ry⟩
/-! ### try: body / except C as n: suite -/
def unS (i : Nat) : Fl → Dr Fl
  | .next ev => if noExc (ev.set i none) then .ret (.next (ev.set i none)) else .fail
  | .brk ev => if noExc (ev.set i none) then .ret (.brk (ev.set i none)) else .fail
  | .cont ev => if noExc (ev.set i none) then .ret (.cont (ev.set i none)) else .fail
  | .ret r => .ret (.ret r)
  | .exc _ _ => .fail
def caught (mt : Nat → Option Bool) (i : Nat) (ms : Ev → Dr Fl) : Fl → Dr Fl
  | .exc x ev => match mt x.c with
    | some true => if noExc ev then (ms (ev.set i (some (.exc x)))).bind (unS i) else .fail
    | some false => .ret (.exc x ev)
    | none => .fail
  | f => .ret f
def sTry (mt : Nat → Option Bool) (i : Nat) (mb ms : Ev → Dr Fl) (ev : Ev) : Dr Fl := (mb ev).bind (caught mt i ms)
theorem ds_try {i : Nat} {x n : Str} {C : Value} {body suite : List Stmt} {b0 : Stmt} {mb ms : Ev → Dr Fl} {mt : Nat → Option Bool} {np pos pos' : Pos} (hs : X.stack = X.env :: X.outer) (hf : X.env.frame = some X.env.locals) (hN : X.N.Nodup) (hi : X.N[i]? = some n) (hln : X.env.kindOf n = some .local) (hc : Names X x C) (tk : Takes X W)
    (hm : ∀ k b, mt k = some b → PySem.W.exmOne X.K (.ref (c.xc k)) C = some b)
    (hb : ∀ (W' : WX) (pn : List (Addr × Obj)) (xe : Value → Shared → Prop), Takes (X.tr pn xe) W' → PassesOwn (model X.prog X.w) X.A X.env xe → DSs c (X.tr pn xe) W' body mb)
    (hsu : ∀ (a : Addr) (oe : Obj) (cls : Value) (dd : Addr) (pn : List (Addr × Obj)), Zc cls (some dd) oe → (∃ vs, oe.data = .fields vs) → DSs (c.at (some (a, cls, dd))) (X.suite a ((a, oe) :: pn)) WF (b0 :: suite) ms) :
    DS c X W (.Try body [.ExceptHandler (some (.Name x np)) (some n) (b0 :: suite) pos'] [] [] pos) (sTry mt i mb ms) := by
  refine PS.weak (ps_try_as (tb := fun W' => RS c W' mb) (ts := fun a cls d => match d with
    | some dd => RS (c.at (some (a, cls, dd))) WF ms
    | none => tNever) (Wout := W) hs hf hN hi hln hc tk hb fun a oe cls d pn hz hv => ?_) fun σ H D h => ?_
  · cases d with
    | none => exact pss_never
    | some dd => exact hsu a oe cls dd pn hz hv
  · obtain ⟨n, p, Hd, ev, k, h⟩ := h
    refine ⟨n, p, Hd, ev, k, (Dr.all_bind.mp h).imp fun fl q => ?_⟩
    cases fl with
    | next ev' => exact q
    | ret r => exact q
    | brk ev' => exact q
    | cont ev' => exact q
    | exc x ev1 =>
      intro p1 σ1 Hd1 H1 cls d k1 xk
      have q : (caught mt i ms (.exc x ev1)).All (FlOk c W n D) := q
      unfold caught at q
      dsimp only at q
      obtain ⟨dd, u, rfl, rfl, hx, ndd, ru⟩ := xk
      have npd : p1 ≠ some dd := fun z => by
        obtain ⟨_, _, _, e, _⟩ := k1.ok.pool dd z
        rw [hx] at e
        cases e
      cases e : mt x.c with
      | none =>
        rw [e] at q
        exact (show False from q).elim
      | some b =>
        rw [e] at q
        refine ⟨b, hm _ _ e, fun hb1 a na => ?_, fun hb1 => ?_⟩
        · subst hb1
          have q : Dr.All (FlOk c W n D) (if noExc ev1 then (ms (ev1.set i (some (.exc x)))).bind (unS i) else .fail) := q
          split at q
          · rename_i hne
            have k2 : SOk (c.at (some (a, .ref (c.xc x.c), dd))) n p1 Hd1 H1 (σ1.set i (some (.ref a))) (ev1.set i (some (.exc x))) :=
              (k1.sx hne).put ⟨a, dd, u, rfl, rfl, ndd, npd, hx, ru.sx⟩ (fun _ z => nomatch z)
            refine ⟨n, p1, Hd1, _, k2, (Dr.all_bind.mp q).imp fun fl q => ?_⟩
            have back : ∀ {p' : Option Addr} {σ' : St} {Hd' H' : Hp} {ev' : Ev}, noExc (ev'.set i none) = true → SOk (c.at (some (a, .ref (c.xc x.c), dd))) n p' Hd' H' σ' ev' → SOk c n p' Hd' H' (σ'.set i none) (ev'.set i none) :=
              fun {p' σ' Hd' H' ev'} hn k' => (k'.drop i none).sx (s := c.sx) hn
            cases fl with
            | next ev' =>
              intro p' σ' Hd' H' k'
              have q : Dr.All (FlOk c W n D) (if noExc (ev'.set i none) then .ret (.next (ev'.set i none)) else .fail) := q
              split at q
              · rename_i hn
                exact (show FlOk c W n D (.next (ev'.set i none)) from q) p' _ Hd' H' (back hn k')
              · exact q.elim
            | brk ev' =>
              intro p' σ' Hd' H' k'
              have q : Dr.All (FlOk c W n D) (if noExc (ev'.set i none) then .ret (.brk (ev'.set i none)) else .fail) := q
              split at q
              · rename_i hn
                exact (show FlOk c W n D (.brk (ev'.set i none)) from q) p' _ Hd' H' (back hn k')
              · exact q.elim
            | cont ev' =>
              intro p' σ' Hd' H' k'
              have q : Dr.All (FlOk c W n D) (if noExc (ev'.set i none) then .ret (.cont (ev'.set i none)) else .fail) := q
              split at q
              · rename_i hn
                exact (show FlOk c W n D (.cont (ev'.set i none)) from q) p' _ Hd' H' (back hn k')
              · exact q.elim
            | ret r =>
              intro v Hd' H' g rk
              refine (show FlOk c W n D (.ret r) from q) v Hd' H' g ?_
              cases r with
              | dat d => exact Rp.unsx rk
              | own ds =>
                obtain ⟨l, vs, z1, z2, z3, z4, z5, z6⟩ := rk
                exact ⟨l, vs, z1, z2, z3, z4, z5, z6.unsx⟩
            | exc x' ev' => exact (show False from q).elim
          · exact q.elim
        · subst hb1
          exact (show FlOk c W n D (.exc x ev1) from q) p1 σ1 Hd1 H1 _ _ k1 ⟨dd, u, rfl, rfl, hx, ndd, ru⟩
/-! ### in a suite: e.f, isinstance(e, C) -/
def mXf (i : Nat) (ok : Nat → Bool) (ev : Ev) : M R := match ev[i]? with
  | some (some (.exc x)) => if ok x.c then M.ok (.dat x.v) else .fail
  | _ => .fail
theorem de_xf (i : Nat) {ok : Nat → Bool} {a dd : Addr} {oe : Obj} {cls : Value} {pn : List (Addr × Obj)} {x f : Str} {pos pn' : Pos} (h : ∀ k, ok k = true → c.xf k = f ∧ XfC X.K (c.xc k) ∧ PySem.W.findIn X.K (.ref (c.xc k)) f = some none) (hz : Zc cls (some dd) oe) (hv : ∃ vs, oe.data = .fields vs)
    (hN : X.N[i]? = some x := by rfl) (hvi : Vis X.env.scope x := by first | exact Or.inl rfl | exact Or.inr (Or.inl rfl) | exact Or.inr (Or.inr rfl)) (hd : (x == ("__debug__" : Str)) = false := by decide) (hcd : (x == ("__classdict__" : Str)) = false := by decide)
    (hb : attributeBase (.Name x pn') f X.env (eval (.Name x pn') X.env) = eval (.Name x pn') X.env := by rfl) :
    DE (c.at (some (a, cls, dd))) (X.suite a ((a, oe) :: pn)) WF (.Attribute (.Name x pn') f pos) (mXf i ok) := by
  refine ⟨fun pins s σ H Q I q => ?_⟩
  obtain ⟨p, Hd, ev, k, q⟩ := q
  unfold mXf at q
  split at q
  · rename_i y e
    split at q
    · rename_i ho
      obtain ⟨h1, h2, h3⟩ := h y.c ho
      obtain ⟨v, e1, a', dd', u, e2, rfl, e4, e5, e6, e7⟩ := k.sl i _ e
      have e2' : some (a, cls, dd) = some (a', .ref (c.xc y.c), dd') := e2
      cases e2'
      refine (pe_xf (X := X) (a := a) (C := c.xc y.c) (oe := oe) (cls := .ref (c.xc y.c)) (d := some dd) (pn := pn) h2 h3 hz hv (pe_var (X := X.suite a ((a, oe) :: pn)) (i := i) hN hvi hd hcd) hb).run pins s σ H Q I ⟨_, e1, rfl, rfl, dd, _, u, rfl, e6, ?_, q u Hd H k.refl e7⟩
      show List.lookup f [(c.xf y.c, u)] = some u
      rw [h1]
      simp [List.lookup]
    · exact q.elim
  · exact q.elim
theorem call_isE2 {a D : Addr} {oe : Obj} {dd : Addr} {pn : List (Addr × Obj)} (C : ExcC X.K D) (hz : Zc (.ref D) (some dd) oe) (hf : ∃ vs, oe.data = .fields vs) : CallR (X.suite a ((a, oe) :: pn)) (.builtin "isinstance") (fun xs H Q => (∃ fs, H dd = some (.xd fs)) ∧ rIsE X.K D a xs H Q) := by
  intro pins s σ H xs us Q I r h
  obtain ⟨⟨fs, hx⟩, c, cv, b, rfl, hcv, e, q⟩ := h
  cases r with
  | cons rx rr =>
    cases rr with
    | cons rt rr =>
      cases rr
      cases rx
      have ec := hcv _ rt
      subst ec
      obtain ⟨hget, _⟩ := I.pin (a, oe) (List.mem_append.mpr (.inl List.mem_cons_self))
      obtain ⟨vs, hv⟩ := hf
      obtain ⟨mA, hns, _⟩ := (show ObjOk X.prog X.w H s.heap dd (.xd fs) from I.hok dd _ hx)
      obtain ⟨od, ho, _⟩ := lookIn_ns hns
      have J : PySem.W.InstAt s.heap a oe D (some od) := ⟨hget, hz.1, by unfold PySem.W.notCls; rw [hv] <;> rfl, by rw [hz.2]; exact ho⟩
      have hcl : (PySem.W.clsIn X.K D).isSome = true := by
        obtain ⟨cd, hc, _⟩ := PySem.W.any_some C.hd
        rw [hc]
        rfl
      exact PySem.W.kia_one (PySem.W.kitx_exc hcl C.hg C.hk C.hs C.ha C.hn C.ht C.hm) I.kIn J e (fun z => nomatch z) fun tk => ⟨.bl b, H, I.kept (t' := tk) fun _ _ z => z, rfl, q⟩
def mIsE (i : Nat) (is : Nat → Option Bool) (ev : Ev) : M R := match ev[i]? with
  | some (some (.exc x)) => M.opt ((is x.c).map fun b => .dat (.bl b))
  | _ => .fail
theorem de_isE (i : Nat) {is : Nat → Option Bool} {a dd : Addr} {oe : Obj} {cls cv : Value} {cV : V} {pn : List (Addr × Obj)} {x y : Str} {pos pn' pt pe : Pos} (h : ∀ k b, is k = some b → PySem.W.kitOne X.K (.ref (c.xc k)) cv = some b ∧ ExcC X.K (c.xc k)) (hz : Zc cls (some dd) oe) (hv : ∃ vs, oe.data = .fields vs)
    (hy : PE (X.suite a ((a, oe) :: pn)) (.Name y pt) (tC cV)) (hcv : ∀ u, RelV cV u → u = cv) (hg : Gl X "isinstance") (hm : X.mg "isinstance" = none)
    (hN : X.N[i]? = some x := by rfl) (hvi : Vis X.env.scope x := by first | exact Or.inl rfl | exact Or.inr (Or.inl rfl) | exact Or.inr (Or.inr rfl)) (hd : (x == ("__debug__" : Str)) = false := by decide) (hcd : (x == ("__classdict__" : Str)) = false := by decide) :
    DE (c.at (some (a, cls, dd))) (X.suite a ((a, oe) :: pn)) WF (.Call (.Name "isinstance" pn') [.Name x pe, .Name y pt] [] pos) (mIsE i is) := by
  refine ⟨fun pins s σ H Q I q => ?_⟩
  obtain ⟨p, Hd, ev, k, q⟩ := q
  unfold mIsE at q
  split at q
  · rename_i z e
    obtain ⟨r, er, q⟩ := M.all_opt.mp q
    simp only [Option.map_eq_some_iff] at er
    obtain ⟨b, er, rfl⟩ := er
    obtain ⟨h1, h2⟩ := h z.c b er
    obtain ⟨v, e1, a', dd', u, e2, rfl, e4, e5, e6, e7⟩ := k.sl i _ e
    have e2' : some (a, cls, dd) = some (a', .ref (c.xc z.c), dd') := e2
    cases e2'
    refine (pe_callB (X := X.suite a ((a, oe) :: pn)) (call_isE2 h2 hz hv) hg hm (by decide +kernel) (pa_cons (pe_var (X := X.suite a ((a, oe) :: pn)) (i := i) hN hvi hd hcd) (pa_cons hy pa_nil))).run pins s σ H Q I ?_
    exact ⟨_, e1, ⟨_, e6⟩, cV, cv, b, rfl, hcv, h1, q _ Hd H k.refl (.bl _)⟩
  · exact q.elim
end
end PD

set_option Elab.async false
set_option linter.all false
set_option maxRecDepth 100000
set_option maxHeartbeats 1000000
set_option autoImplicit false
namespace PD
open PySem L2
/-- a def of the text, as it is called: its name, number of parameters, mirror, level -/
structure Def (P : Program) (w : World) (c : Cw) (mg : Str → Option Value) (base : Heap) (x : Str) (ps : List Str) (F : List Arg → M R) (k : Nat) : Prop where
  ex : ∃ (f : Addr) (fd : FuncData), FnOk P w c.K mg base (L2.CX P w) k f fd ps (spD c ps.length F) ∧ mg x = some (.ref f) ∧ PySem.W.keepIn c.K (.ref f) = true ∧ Binds c.K fd ps []
/-- an error class, as it is raised -/
structure Err (P : Program) (w : World) (c : Cw) (mg : Str → Option Value) (base : Heap) (x : Str) (i : Nat) : Prop where
  oex : OexC c.K (c.xc i)
  ex : ∃ (f : Addr) (fd : FuncData) (ps : List Str), PySem.W.findIn c.K (.ref (c.xc i)) "__init__" = some (some (.ref f)) ∧ PySem.W.typeIn c.K (.ref f) = some (.type "function") ∧ FnOk P w c.K mg base (L2.CX P w) 1 f fd ps (spXI (c.xc i) (c.xf i)) ∧ Binds c.K fd ps []
  mgx : mg x = some (.ref (c.xc i))
section
variable {c : Cw} {X : Cx} {W : WX}
theorem de_callD {k : Nat} {ps : List Str} {F : List Arg → M R} {x : Str} {e : Expr} {es : List Expr} {ms : Ev → M (List Arg)} {pn pos : Pos} (G : Def X.prog X.w c X.mg X.base x ps F k) (hK : X.K = c.K) (hr : Room k X.A) (hg : Gl X x)
    (tk : Takes X W) (ha : DG c X W (e :: es) ms) (hdb : (x == ("__debug__" : Str)) = false := by decide)
    (he : starEach (e :: es) X.env = (false, eval e X.env) :: starEach es X.env := by rfl) (hpl : (backTo pos (starEach es X.env)).any (·.1) = false := by rfl) {n : Nat} (hn : ps.length = n := by rfl) : DE c X W (.Call (.Name x pn) (e :: es) [] pos) (mUser n F ms) := by
  subst hn
  obtain ⟨f, fd, h1, h2, h3, h4⟩ := G.ex
  rw [← hK] at h1 h3 h4
  exact de_call h1 hr hg h2 h3 h4 tk ha hdb he hpl
theorem de_callD0 {k : Nat} {F : List Arg → M R} {x : Str} {pn pos : Pos} (G : Def X.prog X.w c X.mg X.base x [] F k) (hK : X.K = c.K) (hr : Room k X.A) (hg : Gl X x)
    (tk : Takes X W) (hdb : (x == ("__debug__" : Str)) = false := by decide) : DE c X W (.Call (.Name x pn) [] [] pos) (mUser 0 F gNil') := by
  obtain ⟨f, fd, h1, h2, h3, h4⟩ := G.ex
  rw [← hK] at h1 h3 h4
  exact de_call0 h1 hr hg h2 h3 h4 tk hdb
theorem ds_raiseE {is : List Nat} {i : Nat} {x : Str} {e : Expr} {m : Ev → M R} {pn pos pc : Pos} (G : Err X.prog X.w c X.mg X.base x i) (hK : X.K = c.K) (hc : X.calm = true) (tk : Takes X W) (hr : Room 2 X.A) (hg : Gl X x) (he : DE c X W e m)
    (hdb : (x == ("__debug__" : Str)) = false := by decide) (hs : starEach [e] X.env = (false, eval e X.env) :: starEach [] X.env := by rfl) : DS c X W (.Raise (some (.Call (.Name x pn) [e] [] pc)) none pos) (sRaise is i m) := by
  obtain ⟨f, fd, ps, h1, h2, h3, h4⟩ := G.ex
  have h0 := G.oex
  rw [← hK] at h0 h1 h2 h3 h4
  exact ds_raise hc tk h0 h1 h2 h3 hr h4 hg G.mgx he hdb hs
theorem fn_def {P : Program} {w : World} {mg : Str → Option Value} {base : Heap} {x : Str} {st : Stmt} {f : Addr} {fd : FuncData} {N ps : List Str} {k : Nat} {m : Ev → Dr Fl} (Fx : Fun c.K x x st f fd) (S : FnScope N ps (defScope st)) (hm : mg x = some (.ref f)) (b : Binds c.K fd ps [])
    (hb : ∀ (cdv : Value) (A : Around) (outer : List Env) (s : Shared) (H : Hp) (E : XK), Room k (A.deeper (PyProof.Rows.envOfC x (defScope st) s.heap.objs.size f cdv)) →
      DSs c (cxOf (L2.CX P w) P w c.K mg base N x (defScope st) f cdv A outer s H E) (fun cls d _ H => E cls d H) (defBody st) m) : Def P w c mg base x ps (runF N.length m) (k + 1) :=
  ⟨f, fd, fn_ok Fx S hb, hm, Fx.kp, b⟩
/-! ### f(k = v, ..) -/
def pick {A : Type} (perm : List Nat) (zs : List A) : List A := perm.filterMap fun i => zs[i]?
abbrev DK (c : Cw) (X : Cx) (W : WX) (kws : List Keyword) (m : Ev → M (List D)) : Prop := PK X kws (RA c W m)
theorem PK.weak {e : List Keyword} {t t' : TA} (h : PK X e t') (k : ∀ σ H Q, t σ H Q → t' σ H Q) : PK X e t := ⟨fun pos pins s σ H Q I q => h.run pos pins s σ H Q I (k σ H Q q)⟩
theorem dk_nil : DK c X W [] mNil := PK.weak pk_nil fun σ H Q h => by
  obtain ⟨p, Hd, ev, k, h⟩ := h
  exact h [] Hd H k.refl .nil
theorem dk_cons {nm : Option Str} {e : Expr} {kpos : Pos} {kws : List Keyword} {m : Ev → M R} {ms : Ev → M (List D)} (ha : DE c X W e m) (hr : DK c X W kws ms) : DK c X W (⟨nm, e, kpos⟩ :: kws) (mCons m ms) := PK.weak (pk_cons ha hr) fun σ H Q h => by
  obtain ⟨p, Hd, ev, k, h⟩ := h
  refine re_then k ((M.all_bind.mp h).imp fun o q => ?_)
  cases o with
  | error x => exact q
  | ok d =>
    intro v Hd1 H1 g1 r1
    have h2 := M.all_bind.mp (show Dr.All _ _ from q)
    refine ⟨p, Hd1, ev, k.go g1, h2.imp fun o q => ?_⟩
    cases o with
    | error x => exact xlater g1 q
    | ok ds => exact fun vs Hd2 H2 g2 r2 => (show ∀ vs Hd' H', Go p Hd H Hd' H' → Rps c Hd' vs (d :: ds) → Q vs H' from q) (v :: vs) Hd2 H2 (g1.trans g2) (.cons (r1.mono g2.d) r2)

theorem pick_vals {zs : List V} {ws : List Value} (r : Vals zs ws) : ∀ perm : List Nat, Vals (pick perm zs) (pick perm ws)
  | [] => .nil
  | i :: perm => by
    have ih := pick_vals r perm
    unfold pick at ih ⊢
    rw [List.filterMap_cons, List.filterMap_cons]
    cases e : zs[i]? with
    | none =>
      rw [r.none_of e]
      exact ih
    | some z =>
      obtain ⟨u, h1, h2⟩ := r.get e
      rw [h1]
      exact .cons h2 ih
theorem pick_rps {H : Hp} {zs : List V} {ws : List D} (r : Rps c H zs ws) : ∀ perm : List Nat, Rps c H (pick perm zs) (pick perm ws)
  | [] => .nil
  | i :: perm => by
    have ih := pick_rps r perm
    unfold pick at ih ⊢
    rw [List.filterMap_cons, List.filterMap_cons]
    cases e : ws[i]? with
    | none =>
      have : zs[i]? = none := by
        rw [List.getElem?_eq_none_iff] at e ⊢
        rw [r.length]
        exact e
      rw [this]
      exact ih
    | some z =>
      obtain ⟨u, h1, h2⟩ := r.get e
      rw [h1]
      exact .cons h2 ih
/-- how keywords bind -/
def KwBinds (K : PySem.W.Frag) (mg : Str → Option Value) (x : Str) (ps ks : List Str) (perm : List Nat) : Prop := ∀ (f : Addr) (fd : FuncData) (o : Obj), mg x = some (.ref f) → K.lookup f = some o → o.data = .func fd → ∀ (s : Shared) (ws : List Value), ws.length = ks.length → BindsTo s fd ⟨[], ks.zip ws⟩ (ps.zip (pick perm ws))
theorem args_dat {p : Option Addr} {Hd : Hp} : ∀ {vs : List V} {ds : List D}, Rps c Hd vs ds → ArgsOk c p Hd vs (ds.map Arg.dat)
  | _, _, .nil => .nil
  | _, _, .cons a b => .cons a (args_dat b)
def mUserK (n k : Nat) (F : List Arg → M R) (perm : List Nat) (ms : Ev → M (List D)) (ev : Ev) : M R := (ms ev).bind fun ds => if (pick perm ds).length = n ∧ ds.length = k then F ((pick perm ds).map Arg.dat) else .fail
theorem de_callK {k : Nat} {ps ks : List Str} {perm : List Nat} {F : List Arg → M R} {x : Str} {kws : List Keyword} {ms : Ev → M (List D)} {pn pos : Pos} {f : Addr} {fd : FuncData} (h1 : FnOk X.prog X.w X.K X.mg X.base (L2.CX X.prog X.w) k f fd ps (spD c ps.length F)) (h2 : X.mg x = some (.ref f)) (h3 : PySem.W.keepIn X.K (.ref f) = true)
    (hb : ∀ (s : Shared) (ws : List Value), ws.length = ks.length → BindsTo s fd ⟨[], ks.zip ws⟩ (ps.zip (pick perm ws))) (hr : Room k X.A) (hg : Gl X x) (tk : Takes X W) (ha : DK c X W kws ms)
    (hall : (backToKw pos (keywordEach kws X.env)).all (·.1.isSome) = true := by rfl) (hks : (backToKw pos (keywordEach kws X.env)).filterMap (·.1) = ks := by rfl) (hdb : (x == ("__debug__" : Str)) = false := by decide)
    (hpl : ((backTo pos (starEach [] X.env)).any (·.1) || (backToKw pos (keywordEach kws X.env)).any (·.1.isNone)) = false := by rfl) {n n' : Nat} (hn : ps.length = n := by rfl) (hn' : ks.length = n' := by rfl) : DE c X W (.Call (.Name x pn) [] kws pos) (mUserK n n' F perm ms) := by
  subst hn hn'
  refine ⟨fun pins s σ H Q I h => ?_⟩
  obtain ⟨p, Hd, ev, k0, h⟩ := h
  have hA : RA c W ms σ H (fun zs H1 => zs.length = ks.length ∧ spD c ps.length F (pick perm zs) H1 Q (WE W σ)) := by
    refine ⟨p, Hd, ev, k0, (M.all_bind.mp h).imp fun o q => ?_⟩
    cases o with
    | error x => exact q
    | ok ds =>
      intro vs Hd1 H1 g1 r1
      have q' : Dr.All (Wants c W p Hd H σ Q) (if (pick perm ds).length = ps.length ∧ ds.length = ks.length then F ((pick perm ds).map Arg.dat) else .fail) := q
      split at q'
      · rename_i hl
        refine ⟨by rw [r1.length]; exact hl.2, p, Hd1, _, g1.s, g1.q, args_dat (pick_rps r1 perm), by rw [List.length_map]; exact hl.1, q'.imp fun o q => ?_⟩
        cases o with
        | error x => exact xlater g1 q
        | ok r => exact fun v Hd2 H2 g2 rk => q v Hd2 H2 (g1.trans g2) (rk.back k0.same g1)
      · exact q'.elim
  refine wpAny_Call_Name_kw (ld_glob I hg h2 ?_ hdb)
  refine PySem.W.callWith_KW0 (h₀ := X.base) I.ok.mod.kin h3 hall ?_ hpl
  refine thn (ha.run pos pins s σ H _ I hA) fun ws s2 ⟨zs, H2, I2, rz, l2, q2⟩ => ⟨I2.kIn, ?_⟩
  rw [hks]
  refine wpAny_call (codeAny_mono (h1.run X.A X.stack s2 H2 ⟨[], ks.zip ws⟩ (pick perm ws) (pick perm zs) Q (WE W σ) hr I2.env0 (hb s2 ws (rz.length.symm.trans l2)) (pick_vals rz perm) q2) fun r s' hq => ?_)
  cases r with
  | error e => exact passAt tk σ pins H2 s2 e s' I2 hq
  | ok fl =>
    cases fl with
    | ret u => exact I2.after hq
    | next => exact False.elim hq
    | brk => exact False.elim hq
    | cont => exact False.elim hq
/-- a def that is called by keywords too -/
structure DefK (P : Program) (w : World) (c : Cw) (mg : Str → Option Value) (base : Heap) (x : Str) (ps ks : List Str) (perm : List Nat) (F : List Arg → M R) (k : Nat) : Prop where
  ex : ∃ (f : Addr) (fd : FuncData), FnOk P w c.K mg base (L2.CX P w) k f fd ps (spD c ps.length F) ∧ mg x = some (.ref f) ∧ PySem.W.keepIn c.K (.ref f) = true ∧ ∀ (s : Shared) (ws : List Value), ws.length = ks.length → BindsTo s fd ⟨[], ks.zip ws⟩ (ps.zip (pick perm ws))
theorem de_callKD {k : Nat} {ps ks : List Str} {perm : List Nat} {F : List Arg → M R} {x : Str} {kws : List Keyword} {ms : Ev → M (List D)} {pn pos : Pos} (G : DefK X.prog X.w c X.mg X.base x ps ks perm F k) (hK : X.K = c.K) (hr : Room k X.A) (hg : Gl X x) (tk : Takes X W) (ha : DK c X W kws ms)
    (hall : (backToKw pos (keywordEach kws X.env)).all (·.1.isSome) = true := by rfl) (hks : (backToKw pos (keywordEach kws X.env)).filterMap (·.1) = ks := by rfl) (hdb : (x == ("__debug__" : Str)) = false := by decide)
    (hpl : ((backTo pos (starEach [] X.env)).any (·.1) || (backToKw pos (keywordEach kws X.env)).any (·.1.isNone)) = false := by rfl) {n n' : Nat} (hn : ps.length = n := by rfl) (hn' : ks.length = n' := by rfl) : DE c X W (.Call (.Name x pn) [] kws pos) (mUserK n n' F perm ms) := by
  subst hn hn'
  obtain ⟨f, fd, h1, h2, h3, h4⟩ := G.ex
  rw [← hK] at h1 h3
  exact de_callK h1 h2 h3 h4 hr hg tk ha hall hks hdb hpl
theorem fun_kw {K : PySem.W.Frag} {x qual : Str} {st : Stmt} {f : Addr} {fd : FuncData} {ps ks : List Str} {perm : List Nat} (F : Fun K x qual st f fd)
    (h : ∀ (kV doc pm : Value) (an : Option Addr) (cdv ct : Value) (ws : List Value), ws.length = ks.length → bindArgs (PySem.W.fnOf x qual (defArgs st) (defBody st) (defScope st) .none kV doc pm an cdv ct) ⟨[], ks.zip ws⟩ = pure (ps.zip (pick perm ws))) (s : Shared) (ws : List Value) (hw : ws.length = ks.length) : BindsTo s fd ⟨[], ks.zip ws⟩ (ps.zip (pick perm ws)) := by
  obtain ⟨oc, od, kV, doc, pm, an, cdv, ct, osl, rfl, lk, hcd⟩ := F.ex
  exact .of_eq (h kV doc pm an cdv ct ws hw)

/-- a result as data -/
def mAsD (m : Ev → M R) (ev : Ev) : M R := (mD m ev).bind fun d => M.ok (.dat d)
theorem de_asD {e : Expr} {m : Ev → M R} (h : DE c X W e m) : DE c X W e (mAsD m) := PE.weak h fun σ H Q q => by
  obtain ⟨p, Hd, ev, k, q⟩ := q
  refine re_then k ((M.all_bind.mp q).imp fun o q => ?_)
  cases o with
  | error x => exact q
  | ok d => exact fun v Hd1 H1 g1 r1 => (show ∀ v Hd' H', Go p Hd H Hd' H' → ResOk c p H Hd' H' v (.dat d) → Q v H' from q) v Hd1 H1 g1 r1
theorem hu64 {k : Nat} {A : Around} (hr : Room k A) : A.units + 64 < cLine := hr.units
theorem hu65 {k : Nat} {A : Around} (hr : Room k A) : A.units + 65 < cLine := by have := hr.un; omega
theorem hm64 {k : Nat} {A : Around} {v : Option Value} (hr : Room k A) : (A.mark v).units + 64 < cLine := hr.units
theorem hm65 {k : Nat} {A : Around} {v : Option Value} (hr : Room k A) : (A.mark v).units + 65 < cLine := by have := hr.un; show A.units + 65 < cLine; omega
end
end PD

set_option Elab.async false
set_option linter.all false
set_option maxRecDepth 100000
set_option maxHeartbeats 1000000
set_option autoImplicit false
namespace PD
open PySem L2
/-! ### what the top has written -/
structure FnAt (K : PySem.W.Frag) (x : Str) (st : Stmt) (f : Addr) : Prop where
  ns : PySem.W.nsIn K mainGlobals x = some (some (.ref f))
  fn : ∃ fd : FuncData, Fun K x x st f fd ∧ ∃ (kV doc pm : Value) (an : Option Addr) (cd ct : Value), fd = PySem.W.fnOf x x (defArgs st) (defBody st) (defScope st) .none kV doc pm an cd ct
theorem fnAt_mk {K : PySem.W.Frag} {x : Str} {st : Stmt} {f : Addr} {oc : Value} {od an : Option Addr} {sl : Array (Option Value)} {kV doc pm cd ct : Value} (a : PySem.W.nsIn K mainGlobals x = some (some (.ref f)))
    (l : K.lookup f = some ⟨oc, od, .func (PySem.W.fnOf x x (defArgs st) (defBody st) (defScope st) .none kV doc pm an cd ct), sl⟩) (cI : PySem.W.codeIn K cd x = true) (k : PySem.W.keepIn K (.ref f) = true) : FnAt K x st f :=
  ⟨a, _, fun_mk (st := st) l cI k, _, _, _, _, _, _, rfl⟩
structure XAt (K : PySem.W.Frag) (x f qual : Str) (st : Stmt) (C : Addr) : Prop where
  ns : PySem.W.nsIn K mainGlobals x = some (some (.ref C))
  oex : OexC K C
  xf : XfC K C
  ex : ExcC K C
  no : PySem.W.findIn K (.ref C) f = some none
  fn : ∃ (fI : Addr) (fd : FuncData), PySem.W.findIn K (.ref C) "__init__" = some (some (.ref fI)) ∧ PySem.W.typeIn K (.ref fI) = some (.type "function") ∧ Fun K "__init__" qual st fI fd
theorem oexC_mk {K : PySem.W.Frag} {C : Addr} {nm q : Str} {N : Addr} {bs bm : List Value} {sn : List Str} {sub : List Value} {ab : Bool} {col : Option Bool} {dd : Option Addr} {m0 m1 m2 m3 m5 : Option Value}
    (xL : K.lookup C = some (excClassObj nm q C N bs bm true sn sub ab col dd m0 m1 m2 m3 m5 "ValueError.__new__")) (rv : PySem.HandSPX.refsVE bm = true) (sa : PySem.W.findIn K (.ref C) "__setattr__" = some (some (.builtin "object.__setattr__")))
    (eC : PySem.W.subIn K (.ref C) (.type "BaseException") = some true) (tC : PySem.W.typeIn K (.ref C) = some (.type "type")) (kC : PySem.W.keepIn K (.ref C) = true) : OexC K C :=
  ⟨⟨_, _, _, _, _, _, _, _, _, _, _, _, _, _, _, xL, rv⟩, sa, eC, tC, kC⟩
theorem xAt_mk {K : PySem.W.Frag} {x f qual : Str} {st : Stmt} {C fI : Addr} {oc : Value} {od an : Option Addr} {sl : Array (Option Value)} {kV doc pm cd ct : Value} {nm q : Str} {N : Addr} {bs bm : List Value} {sn : List Str} {sub : List Value} {ab : Bool} {col : Option Bool} {dd : Option Addr} {m0 m1 m2 m3 m5 : Option Value}
    (ns : PySem.W.nsIn K mainGlobals x = some (some (.ref C)))
    (xL : K.lookup C = some (excClassObj nm q C N bs bm true sn sub ab col dd m0 m1 m2 m3 m5 "ValueError.__new__")) (rv : PySem.HandSPX.refsVE bm = true) (sa : PySem.W.findIn K (.ref C) "__setattr__" = some (some (.builtin "object.__setattr__")))
    (eC : PySem.W.subIn K (.ref C) (.type "BaseException") = some true) (tC : PySem.W.typeIn K (.ref C) = some (.type "type")) (kC : PySem.W.keepIn K (.ref C) = true)
    (ga : PySem.W.findIn K (.ref C) "__getattribute__" = some (some (.builtin "BaseException.__getattribute__"))) (gg : PySem.W.findIn K (.ref C) "__getattr__" = some none) (hd : PySem.W.hasDictIn K C = true)
    (ha : PySem.W.findIn K (.ref C) "__class__" = some (some (.builtin "object.__class__"))) (hn : PySem.W.specialIn K (.builtin "object.__class__") "__get__" = some (some (.builtin "getset_descriptor.__get__"))) (ht : PySem.W.takesIn K (.builtin "object.__class__") = some true) (hm : PySem.W.mroIn K C (.type "object") = some true)
    (no : PySem.W.findIn K (.ref C) f = some none) (a1 : PySem.W.findIn K (.ref C) "__init__" = some (some (.ref fI))) (t1 : PySem.W.typeIn K (.ref fI) = some (.type "function"))
    (l : K.lookup fI = some ⟨oc, od, .func (PySem.W.fnOf "__init__" qual (defArgs st) (defBody st) (defScope st) .none kV doc pm an cd ct), sl⟩) (cI : PySem.W.codeIn K cd qual = true) (k : PySem.W.keepIn K (.ref fI) = true) : XAt K x f qual st C :=
  ⟨ns, oexC_mk xL rv sa eC tC kC, ⟨ga, gg, eC, hd⟩, ⟨ga, gg, eC, hd, ha, hn, ht, hm⟩, no, fI, _, a1, t1, fun_mk (st := st) l cI k⟩
/-! ### constants of a module -/
def repB (K : PySem.W.Frag) : Nat → Value → D → Bool
  | _, .none, .non => true
  | _, .bool a, .bl b => a == b
  | _, .int a _, .int b => a == b
  | _, .str a _, .str b => a == b
  | n + 1, .ref a, .tup ds => (match K.lookup a with
    | some o => (match o.cls with | .type t => t == "tuple" | _ => false) && (match o.data with
      | .seq its _ => decide (its.size ≤ 1000) && (decide (its.toList.length = ds.length) && (its.toList.zip ds).all fun p => repB K n p.1 p.2)
      | _ => false)
    | none => false)
  | _, _, _ => false
def GlobAt (K : PySem.W.Frag) (x : Str) (d : D) : Prop := ∃ u v, PySem.W.nsIn K mainGlobals x = some (some u) ∧ RelV v u ∧ ∀ (c : Cw) (H : Hp), c.K = K → Rp c H v d
theorem reps_ok {K : PySem.W.Frag} {n : Nat} (ih : ∀ u d, repB K n u d = true → ∃ v, RelV v u ∧ ∀ (c : Cw) (H : Hp), c.K = K → Rp c H v d) : ∀ (us : List Value) (ds : List D), us.length = ds.length → ((us.zip ds).all fun p => repB K n p.1 p.2) = true → ∃ vs, Vals vs us ∧ ∀ (c : Cw) (H : Hp), c.K = K → Rps c H vs ds
  | [], [], _, _ => ⟨[], .nil, fun _ _ _ => .nil⟩
  | u :: us, d :: ds, hl, h => by
    rw [List.zip_cons_cons, List.all_cons, Bool.and_eq_true] at h
    obtain ⟨v, r, q⟩ := ih u d h.1
    obtain ⟨vs, rs, qs⟩ := reps_ok ih us ds (by simpa using hl) h.2
    exact ⟨v :: vs, .cons r rs, fun c H e => .cons (q c H e) (qs c H e)⟩
  | [], _ :: _, hl, _ => by cases hl
  | _ :: _, [], hl, _ => by cases hl
theorem rep_ok {K : PySem.W.Frag} : ∀ (n : Nat) (u : Value) (d : D), repB K n u d = true → ∃ v, RelV v u ∧ ∀ (c : Cw) (H : Hp), c.K = K → Rp c H v d := by
  intro n
  induction n with
  | zero =>
    intro u d h
    unfold repB at h
    split at h
    · exact ⟨.non, rfl, fun _ _ _ => .non⟩
    · exact ⟨.bl _, rfl, fun _ _ _ => (beq_iff_eq.mp h) ▸ .bl _⟩
    · exact ⟨.int _, ⟨_, rfl⟩, fun _ _ _ => (beq_iff_eq.mp h) ▸ .int _⟩
    · exact ⟨.str _, ⟨_, rfl⟩, fun _ _ _ => (beq_iff_eq.mp h) ▸ .str _⟩
    · contradiction
    · cases h
  | succ n ih =>
    intro u d h
    unfold repB at h
    split at h
    · exact ⟨.non, rfl, fun _ _ _ => .non⟩
    · exact ⟨.bl _, rfl, fun _ _ _ => (beq_iff_eq.mp h) ▸ .bl _⟩
    · exact ⟨.int _, ⟨_, rfl⟩, fun _ _ _ => (beq_iff_eq.mp h) ▸ .int _⟩
    · exact ⟨.str _, ⟨_, rfl⟩, fun _ _ _ => (beq_iff_eq.mp h) ▸ .str _⟩
    · rename_i m a ds heq
      cases heq
      split at h
      · rename_i o ho
        rw [Bool.and_eq_true] at h
        obtain ⟨h1, h2⟩ := h
        split at h2
        · rename_i its nn hd
          simp only [Bool.and_eq_true, decide_eq_true_eq] at h2
          obtain ⟨vs, rs, qs⟩ := reps_ok ih _ _ h2.2.1 h2.2.2
          have hc : o.cls = .type "tuple" := by
            split at h1
            · rename_i t e
              rw [e, beq_iff_eq.mp h1]
            · cases h1
          refine ⟨.ref a, rfl, fun c H e => .tup ?_ (qs c H e)⟩
          rw [e]
          exact .inr ⟨o, its, nn, ho, hc, hd, Nat.le_trans h2.1 (by decide), rs⟩
        · cases h2
      · cases h
    · cases h
theorem globAt_mk {K : PySem.W.Frag} {x : Str} {d : D} {u : Value} (n : Nat) (a : PySem.W.nsIn K mainGlobals x = some (some u)) (h : repB K n u d = true) : GlobAt K x d := by
  obtain ⟨v, r, q⟩ := rep_ok n u d h
  exact ⟨u, v, a, r, q⟩
theorem GlobAt.glob {c : Cw} {x : Str} {d : D} {h : Heap} {mg : Str → Option Value} (X : c.K.In h) (G : h.Ns mainGlobals mg) (g : GlobAt c.K x d) : Glob c mg x d := by
  obtain ⟨u, v, a, r, q⟩ := g
  exact ⟨u, v, PySem.W.mg_of X G a, r, fun H => q c H rfl⟩
theorem walk {l : PySem.W.OpenLaw} {q : Program} {loose : List Str} {XP : (Str → Option Value) → Heap → Prop} {YP : World → Heap → Prop} {d : DefRec} {K : Params → PySem.W.Frag} {k : Nat} {x : Str} (hn : l.most = some 63) (hdf : d.params.defaults = []) (hr : Room k callerA)
    (hY : ∀ (w : World) (h : Heap), YP w h → (K w.params).In h)
    (F : ∀ (w : World) (mg : Str → Option Value) (fa : Addr) (h : Heap), (K w.params).In h → h.Ns mainGlobals mg → mg d.name = some (.ref fa) →
      ∃ fd : FuncData, (∀ (s : Shared) (u : Value), BindsTo s fd ⟨[u], []⟩ [(x, u)]) ∧ ∀ base : Heap, (K w.params).In base → base.Ns mainGlobals mg → FnOk l.prog w (K w.params) mg base (L2.CX l.prog w) k fa fd [x] (spEnd (K w.params))) :
    PySem.W.WalkO q loose XP YP l.row.toRowW d [] (fun f vs => PySem.call f vs) :=
  L2.walk_of (n := 63) (k := k) (x := x) (CX := fun w => L2.CX l.prog w) (sp := fun w => spEnd (K w.params)) hn (by decide) hdf hr hY F (fun _ _ a ns hl _ hS => ⟨a, ns, rfl, hS, hl, fun _ => rfl⟩) fun _ _ _ _ _ h => by
    obtain ⟨_, _, _, _, _, _, _, _, _, _, _, _, z⟩ := h
    exact z.elim
theorem fnAt_ok {K : PySem.W.Frag} {x : Str} {st : Stmt} {f : Addr} {h : Heap} {mg : Str → Option Value} (d : FnAt K x st f) (X : K.In h) (G : h.Ns mainGlobals mg) {ps : List Str}
    (hb : ∀ (kV doc pm : Value) (an : Option Addr) (cdv ct : Value) (us : List Value), us.length = ps.length → bindArgs (PySem.W.fnOf x x (defArgs st) (defBody st) (defScope st) .none kV doc pm an cdv ct) ⟨us, []⟩ = pure (ps.zip us)) : ∃ fd, Fun K x x st f fd ∧ mg x = some (.ref f) ∧ Binds K fd ps [] := by
  obtain ⟨a, fd, F, _⟩ := d
  exact ⟨fd, F, PySem.W.mg_of X G a, F.binds hb⟩
theorem xAt_err {P : Program} {w : World} {c : Cw} {x f qual : Str} {st : Stmt} {h base : Heap} {mg : Str → Option Value} {i : Nat} {q1 q2 q3 q4 : Pos} (d : XAt c.K x f qual st (c.xc i)) (X : c.K.In h) (G : h.Ns mainGlobals mg) (hf : c.xf i = f) (S : FnScope ["self", f] ["self", f] (defScope st))
    (hb : defBody st = [.Assign [.Attribute (.Name "self" q1) f q2] (.Name f q3) q4]) (h0 : (defScope st).names.lookup ("self" : Str) = some .local) (h1 : (defScope st).names.lookup f = some .local)
    (hbd : ∀ (kV doc pm : Value) (an : Option Addr) (cdv ct : Value) (us : List Value), us.length = (["self", f] : List Str).length → bindArgs (PySem.W.fnOf "__init__" qual (defArgs st) (defBody st) (defScope st) .none kV doc pm an cdv ct) ⟨us, []⟩ = pure ((["self", f] : List Str).zip us))
    (hd : (f == ("__debug__" : Str)) = false := by decide) (hcd : (f == ("__classdict__" : Str)) = false := by decide) : Err P w c mg base x i := by
  obtain ⟨a, o, xf, ex, no, fI, fd, h2, h3, F⟩ := d
  refine ⟨o, ⟨fI, fd, ["self", f], h2, h3, ?_, F.binds hbd⟩, PySem.W.mg_of X G a⟩
  rw [hf]
  exact xinit_ok F S hb o no h0 h1 hd hcd
end PD

set_option Elab.async false
set_option linter.all false
set_option maxRecDepth 100000
set_option maxHeartbeats 4000000
set_option autoImplicit false
/-! the plain side: what a mirror answers -/
namespace PD
open PySem L2
section
variable {A B : Type}
@[simp] theorem Dr.bind_ret {a : A} {f : A → Dr B} : (Dr.ret a).bind f = f a := rfl
@[simp] theorem Dr.bind_take {n : Nat} {k : Nat → Dr A} {f : A → Dr B} : (Dr.take n k).bind f = .take n fun r => (k r).bind f := rfl
@[simp] theorem Dr.bind_fail {f : A → Dr B} : (Dr.fail).bind f = .fail := rfl
theorem Dr.bind_assoc {C : Type} {f : A → Dr B} {g : B → Dr C} : ∀ x : Dr A, (x.bind f).bind g = x.bind fun a => (f a).bind g
  | .ret _ => rfl
  | .fail => rfl
  | .take n k => by
    show Dr.take n _ = Dr.take n _
    congr 1
    funext r
    exact Dr.bind_assoc (k r)
@[simp] theorem M.ok_bind {a : A} {f : A → M B} : (M.ok a).bind f = f a := rfl
@[simp] theorem M.err_bind {e : Exn} {f : A → M B} : M.bind (.ret (.error e)) f = .ret (.error e) := rfl
@[simp] theorem M.retok_bind {a : A} {f : A → M B} : M.bind (.ret (.ok a)) f = f a := rfl
@[simp] theorem M.take_bind {n : Nat} {k : Nat → M A} {f : A → M B} : M.bind (.take n k) f = .take n fun r => (k r).bind f := rfl
@[simp] theorem M.fail_bind {f : A → M B} : M.bind (.fail) f = .fail := rfl
@[simp] theorem Dr.all_ret {P : A → Prop} {a : A} : (Dr.ret a).All P ↔ P a := Iff.rfl
@[simp] theorem M.all_ok {P : Except Exn A → Prop} {a : A} : (M.ok a).All P ↔ P (.ok a) := Iff.rfl
@[simp] theorem M.ok_dbind {a : A} {f : Except Exn A → Dr B} : Dr.bind (M.ok a) f = f (.ok a) := rfl
@[simp] theorem Dr.all_fail {P : A → Prop} : (Dr.fail).All P ↔ False := Iff.rfl
@[simp] theorem Dr.all_take {P : A → Prop} {n : Nat} {k : Nat → Dr A} : (Dr.take n k).All P ↔ 0 < n ∧ n ≤ 1000000 ∧ ∀ r, r < n → (k r).All P := Iff.rfl
/-- an outcome that goes on -/
def okThen (f : A → M B) (P : Except Exn B → Prop) : Except Exn A → Prop
  | .ok a => (f a).All P
  | .error e => P (.error e)
theorem M.allBind {P : Except Exn B → Prop} {f : A → M B} {x : M A} : (x.bind f).All P ↔ x.All (okThen f P) := by
  unfold M.bind
  rw [Dr.all_bind]
  constructor
  · intro h
    exact h.imp fun a p => by
      cases a with
      | ok a => exact p
      | error e => exact p
  · intro h
    exact h.imp fun a p => by
      cases a with
      | ok a => exact p
      | error e => exact p
def Dr.allB (p : A → Bool) : Dr A → Bool
  | .ret a => p a
  | .take n k => decide (0 < n) && decide (n ≤ 1000000) && (List.range n).all fun r => (k r).allB p
  | .fail => false
theorem Dr.all_of {p : A → Bool} : ∀ {x : Dr A}, x.allB p = true → x.All fun a => p a = true
  | .ret _, h => h
  | .fail, h => by cases h
  | .take n k, h => by
    simp only [Dr.allB, Bool.and_eq_true, decide_eq_true_eq, List.all_eq_true, List.mem_range] at h
    exact ⟨h.1.1, h.1.2, fun r hr => Dr.all_of (h.2 r hr)⟩
end
mutual
def D.beq : D → D → Bool
  | .non, .non => true
  | .bl a, .bl b => a == b
  | .int a, .int b => a == b
  | .str a, .str b => a == b
  | .lst a, .lst b => D.beqs a b
  | .tup a, .tup b => D.beqs a b
  | .ins c a, .ins d b => c == d && D.beqf a b
  | _, _ => false
def D.beqs : List D → List D → Bool
  | [], [] => true
  | a :: as, b :: bs => D.beq a b && D.beqs as bs
  | _, _ => false
def D.beqf : List (Str × D) → List (Str × D) → Bool
  | [], [] => true
  | (x, a) :: as, (y, b) :: bs => x == y && (D.beq a b && D.beqf as bs)
  | _, _ => false
end
mutual
theorem D.eq_of : ∀ {a b : D}, D.beq a b = true → a = b
  | .non, b, h => by cases b <;> first | rfl | (simp [D.beq] at h)
  | .bl x, b, h => by cases b <;> simp_all [D.beq]
  | .int x, b, h => by cases b <;> simp_all [D.beq]
  | .str x, b, h => by cases b <;> simp_all [D.beq]
  | .lst x, .lst y, h => by rw [D.eqs_of (show D.beqs x y = true from h)]
  | .tup x, .tup y, h => by rw [D.eqs_of (show D.beqs x y = true from h)]
  | .ins c x, .ins d y, h => by
    have h' : (c == d && D.beqf x y) = true := h
    simp only [Bool.and_eq_true, beq_iff_eq] at h'
    rw [D.eqf_of h'.2, h'.1]
  | .lst _, .non, h => nomatch h
  | .lst _, .bl _, h => nomatch h
  | .lst _, .int _, h => nomatch h
  | .lst _, .str _, h => nomatch h
  | .lst _, .tup _, h => nomatch h
  | .lst _, .ins _ _, h => nomatch h
  | .tup _, .non, h => nomatch h
  | .tup _, .bl _, h => nomatch h
  | .tup _, .int _, h => nomatch h
  | .tup _, .str _, h => nomatch h
  | .tup _, .lst _, h => nomatch h
  | .tup _, .ins _ _, h => nomatch h
  | .ins _ _, .non, h => nomatch h
  | .ins _ _, .bl _, h => nomatch h
  | .ins _ _, .int _, h => nomatch h
  | .ins _ _, .str _, h => nomatch h
  | .ins _ _, .lst _, h => nomatch h
  | .ins _ _, .tup _, h => nomatch h
theorem D.eqs_of : ∀ {a b : List D}, D.beqs a b = true → a = b
  | [], [], _ => rfl
  | a :: as, b :: bs, h => by
    have h' : (D.beq a b && D.beqs as bs) = true := h
    simp only [Bool.and_eq_true] at h'
    rw [D.eq_of h'.1, D.eqs_of h'.2]
  | [], _ :: _, h => nomatch h
  | _ :: _, [], h => nomatch h
theorem D.eqf_of : ∀ {a b : List (Str × D)}, D.beqf a b = true → a = b
  | [], [], _ => rfl
  | (x, a) :: as, (y, b) :: bs, h => by
    have h' : (x == y && (D.beq a b && D.beqf as bs)) = true := h
    simp only [Bool.and_eq_true, beq_iff_eq] at h'
    rw [h'.1, D.eq_of h'.2.1, D.eqf_of h'.2.2]
  | [], _ :: _, h => nomatch h
  | _ :: _, [], h => nomatch h
end
/-- a check of an outcome: data of a list -/
def outIn (E : List D) : Except Exn R → Bool
  | .ok (.dat d) => E.any fun e => D.beq d e
  | _ => false
theorem outIn_ex {E : List D} {o : Except Exn R} (h : outIn E o = true) : ∃ d ∈ E, o = .ok (.dat d) := by
  cases o with
  | error e => cases h
  | ok r =>
    cases r with
    | own ds => cases h
    | dat d =>
      simp only [outIn, List.any_eq_true] at h
      obtain ⟨e, h1, h2⟩ := h
      exact ⟨e, h1, by rw [D.eq_of h2]⟩
def yesB : Except Exn R → Bool
  | .ok (.dat (.bl true)) => true
  | _ => false
theorem yesB_eq {o : Except Exn R} (h : yesB o = true) : o = .ok (.dat (.bl true)) := by
  unfold yesB at h
  split at h
  · rfl
  · cases h
/-- a loop by an invariant of the slots -/
def FlNext (I : Ev → Prop) : Fl → Prop
  | .next ev => I ev
  | .cont ev => I ev
  | _ => False
theorem forL_all {T : Tg} {body : Ev → Dr Fl} {I : Ev → Prop} : ∀ {ds : List D} {ev : Ev}, I ev → (∀ d ∈ ds, ∀ ev, I ev → ∃ ev', bindT T d ev = some ev' ∧ (body ev').All (FlNext I)) → (forL T body ds ev).All fun f => ∃ ev', f = .next ev' ∧ I ev'
  | [], ev, h, _ => ⟨ev, rfl, h⟩
  | d :: ds, ev, h, hb => by
    obtain ⟨ev', e, q⟩ := hb d (List.mem_cons_self) ev h
    unfold forL
    rw [e]
    refine Dr.all_bind.mpr (q.imp fun f hf => ?_)
    cases f with
    | next ev2 => exact forL_all hf fun d hd => hb d (List.mem_cons_of_mem _ hd)
    | cont ev2 => exact forL_all hf fun d hd => hb d (List.mem_cons_of_mem _ hd)
    | brk ev2 => exact hf.elim
    | ret r => exact hf.elim
    | exc x ev2 => exact hf.elim
end PD

set_option Elab.async false
set_option linter.all false
set_option maxRecDepth 100000
set_option maxHeartbeats 400000
set_option autoImplicit false
namespace PD
open PySem L2
section
variable {ev : Ev} {a b : Ev → Dr Fl} {m ma mb : Ev → M R} {t ta tb : Ev → M Bool} {ms : Ev → M (List D)}
@[simp] theorem sSeq_eq : sSeq a b ev = (a ev).bind (onNext b) := rfl
@[simp] theorem onNext_next : onNext b (.next ev) = b ev := rfl
@[simp] theorem onNext_ret {r : R} : onNext b (.ret r) = .ret (.ret r) := rfl
@[simp] theorem onNext_exc {x : Exn} : onNext b (.exc x ev) = .ret (.exc x ev) := rfl
@[simp] theorem onNext_brk : onNext b (.brk ev) = .ret (.brk ev) := rfl
@[simp] theorem onNext_cont : onNext b (.cont ev) = .ret (.cont ev) := rfl
@[simp] theorem sNil_eq : sNil ev = .ret (.next ev) := rfl
@[simp] theorem frz_nil : frz [] ev = ev := rfl
def ifK (a b : Ev → Dr Fl) (ev evf : Ev) : Except Exn Bool → Dr Fl
  | .ok x => if x = true then a ev else b ev
  | .error x => .ret (.exc x evf)
@[simp] theorem ifK_t {evf : Ev} : ifK a b ev evf (.ok true) = a ev := rfl
@[simp] theorem ifK_f {evf : Ev} : ifK a b ev evf (.ok false) = b ev := rfl
@[simp] theorem ifK_e {evf : Ev} {x : Exn} : ifK a b ev evf (.error x) = .ret (.exc x evf) := rfl
@[simp] theorem sIf_eq {is : List Nat} : sIf is t a b ev = Dr.bind (t (frz is ev)) (ifK a b ev (frz is ev)) := by
  unfold sIf
  congr 1
@[simp] theorem mB_eq : mB m ev = (mD m ev).bind asBl := rfl
@[simp] theorem asBl_bl {x : Bool} : asBl (.bl x) = M.ok x := rfl
@[simp] theorem mD_eq : mD m ev = (m ev).bind fun r => M.ok r.d := rfl
@[simp] theorem R.d_dat {d : D} : (R.dat d).d = d := rfl
@[simp] theorem R.d_own {d : List D} : (R.own d).d = .lst d := rfl
@[simp] theorem mOrT_eq : mOrT ta tb ev = (ta ev).bind fun x => if x = true then M.ok true else tb ev := rfl
@[simp] theorem mAndT_eq : mAndT ta tb ev = (ta ev).bind fun x => if x = true then tb ev else M.ok false := rfl
@[simp] theorem mNotT_eq : mNotT ta ev = (ta ev).bind fun x => M.ok !x := rfl
@[simp] theorem mUser_eq {n : Nat} {F : List Arg → M R} {mg : Ev → M (List Arg)} : mUser n F mg ev = (mg ev).bind fun as => if as.length = n then F as else .fail := rfl
@[simp] theorem gDat_eq {mg : Ev → M (List Arg)} : gDat m mg ev = (mD m ev).bind fun d => (mg ev).bind fun ds => M.ok (.dat d :: ds) := rfl
@[simp] theorem gNil_eq : gNil' ev = M.ok [] := rfl
@[simp] theorem mC_eq {d : D} : mC d ev = M.ok (.dat d) := rfl
theorem mVar_of {i : Nat} {d : D} (h : ev[i]? = some (some (.dat d))) : mVar i ev = M.ok (.dat d) := by
  unfold mVar
  rw [h]
@[simp] theorem mVar_0 {d : D} {r : Ev} : mVar 0 (some (.dat d) :: r) = M.ok (.dat d) := rfl
@[simp] theorem mVar_s {i : Nat} {s : Option Sl} {r : Ev} : mVar (i + 1) (s :: r) = mVar i r := by
  unfold mVar
  simp
@[simp] theorem mOp_eq {g : D → D → Option R} : mOp g ma mb ev = (mD ma ev).bind fun x => (mD mb ev).bind fun y => M.opt (g x y) := rfl
@[simp] theorem mopt_some {A : Type} {a : A} : M.opt (some a) = M.ok a := rfl
@[simp] theorem mIf_eq : mIf t ma mb ev = (t ev).bind fun x => if x = true then ma ev else mb ev := rfl
@[simp] theorem mCons_eq : mCons m ms ev = (mD m ev).bind fun d => (ms ev).bind fun ds => M.ok (d :: ds) := rfl
@[simp] theorem mNil_eq : mNil ev = M.ok [] := rfl
@[simp] theorem bindT_one {i : Nat} {d : D} : bindT (.one i) d ev = some (ev.set i (some (.dat d))) := rfl
@[simp] theorem sDrop_eq {is : List Nat} : sDrop is m ev = (evS is m ev).bind fun o => match o with | (.ok _, ev') => .ret (.next ev') | (.error x, ev') => .ret (.exc x ev') := rfl
def setK (i : Nat) : Except Exn R × Ev → Dr Fl
  | (.ok r, ev') => .ret (.next (ev'.set i (some r.sl)))
  | (.error x, ev') => .ret (.exc x ev')
@[simp] theorem setK_ok {i : Nat} {r : R} : setK i (.ok r, ev) = .ret (.next (ev.set i (some r.sl))) := rfl
@[simp] theorem setK_err {i : Nat} {x : Exn} : setK i (.error x, ev) = .ret (.exc x ev) := rfl
@[simp] theorem sSet_eq {is : List Nat} {i : Nat} : sSet is i m ev = (evS is m ev).bind (setK i) := by
  unfold sSet
  congr 1
@[simp] theorem R.sl_dat {d : D} : (R.dat d).sl = .dat d := rfl
@[simp] theorem R.sl_own {d : List D} : (R.own d).sl = .own d := rfl
def evK (is : List Nat) (ev : Ev) : Except Exn R → Dr (Except Exn R × Ev)
  | .ok r => .ret (.ok r, if r.sc then ev else frz is ev)
  | .error x => .ret (.error x, frz is ev)
theorem evS_eq' {is : List Nat} : evS is m ev = Dr.bind (m (frz is ev)) (evK is ev) := by
  unfold evS
  congr 1
@[simp] theorem evS_eq : evS [] m ev = Dr.bind (m ev) fun o => .ret (o, ev) := by
  rw [evS_eq']
  congr 1
  funext o
  cases o with
  | ok r => simp [evK]
  | error x => rfl
def retK : Except Exn R × Ev → Dr Fl
  | (.ok r, _) => .ret (.ret r)
  | (.error x, ev') => .ret (.exc x ev')
@[simp] theorem retK_ok {r : R} : retK (.ok r, ev) = .ret (.ret r) := rfl
@[simp] theorem retK_err {x : Exn} : retK (.error x, ev) = .ret (.exc x ev) := rfl
@[simp] theorem sRet_eq {is : List Nat} : sRet is m ev = (evS is m ev).bind retK := by
  unfold sRet
  congr 1
def forK (T : Tg) (body : Ev → Dr Fl) (evf : Ev) : Except Exn (List D) → Dr Fl
  | .ok ds => forL T body ds evf
  | .error x => .ret (.exc x evf)
@[simp] theorem forK_ok {T : Tg} {ds : List D} : forK T a ev (.ok ds) = forL T a ds ev := rfl
@[simp] theorem forK_err {T : Tg} {x : Exn} : forK T a ev (.error x) = .ret (.exc x ev) := rfl
@[simp] theorem sFor_eq {is : List Nat} {T : Tg} {mi : Ev → M (List D)} : sFor is T mi a ev = Dr.bind (mi (frz is ev)) (forK T a (frz is ev)) := by
  unfold sFor
  congr 1
@[simp] theorem mIt_eq : mIt m ev = (mD m ev).bind asSeq := rfl
@[simp] theorem asSeq_lst {xs : List D} : asSeq (.lst xs) = M.ok xs := rfl
@[simp] theorem asSeq_tup {xs : List D} : asSeq (.tup xs) = M.ok xs := rfl
@[simp] theorem mAsD_eq : mAsD m ev = (mD m ev).bind fun d => M.ok (.dat d) := rfl
@[simp] theorem mLst_eq : mLst ms ev = (ms ev).bind fun ds => if ds.length ≤ sizeLine then M.ok (.own ds) else .fail := rfl
@[simp] theorem mTup_eq : mTup ms ev = (ms ev).bind fun ds => if ds.length ≤ sizeLine then M.ok (.dat (.tup ds)) else .fail := rfl
@[simp] theorem mCall_eq {g : List D → Option R} : mCall g ms ev = (ms ev).bind fun ds => M.opt (g ds) := rfl
@[simp] theorem mRng_eq : mRng ms ev = (ms ev).bind asRng := rfl
theorem sz {n : Nat} (h : n ≤ 1000000) : n ≤ sizeLine := Nat.le_trans h (by decide)
@[simp] theorem gSlot_eq {i : Nat} {mg : Ev → M (List Arg)} : gSlot i mg ev = (slArg ev[i]?).bind fun a => (mg ev).bind fun ds => M.ok (a :: ds) := rfl
@[simp] theorem slArg_pool : slArg (some (some .pool)) = M.ok .pool := rfl
@[simp] theorem slArg_scr {ns : List Int} : slArg (some (some (.scr ns))) = M.ok (.scr ns) := rfl
@[simp] theorem lCons_eq {ml : Ev → M (List R)} : lCons m ml ev = (m ev).bind fun d => (ml ev).bind fun ds => M.ok (d :: ds) := rfl
@[simp] theorem lNil_eq : lNil ev = M.ok [] := rfl
def parK (sl is : List Nat) (ev : Ev) : Except Exn (List R) → Dr Fl
  | .ok rs => match setRs sl rs (if R.scs rs then ev else frz is ev) with
    | some ev' => .ret (.next ev')
    | none => .fail
  | .error x => .ret (.exc x (frz is ev))
theorem sPar_eq' {is sl : List Nat} {ml : Ev → M (List R)} : sPar is sl ml ev = Dr.bind (ml (frz is ev)) (parK sl is ev) := by
  unfold sPar
  congr 1
def par0 (sl : List Nat) (ev : Ev) : Except Exn (List R) → Dr Fl
  | .ok rs => match setRs sl rs ev with
    | some ev' => .ret (.next ev')
    | none => .fail
  | .error x => .ret (.exc x ev)
@[simp] theorem sPar_eq {sl : List Nat} {ml : Ev → M (List R)} : sPar [] sl ml ev = Dr.bind (ml ev) (par0 sl ev) := by
  rw [sPar_eq']
  congr 1
  funext o
  cases o with
  | ok r => simp [parK, par0]
  | error x => rfl
@[simp] theorem par0_ok {sl : List Nat} {rs : List R} : par0 sl ev (.ok rs) = match setRs sl rs ev with
    | some ev' => .ret (.next ev')
    | none => .fail := rfl
@[simp] theorem par0_err {sl : List Nat} {x : Exn} : par0 sl ev (.error x) = .ret (.exc x ev) := rfl
@[simp] theorem setRs_nil : setRs [] [] ev = some ev := rfl
@[simp] theorem setRs_cons {i : Nat} {is : List Nat} {r : R} {rs : List R} : setRs (i :: is) (r :: rs) ev = setRs is rs (ev.set i (some r.sl)) := rfl
theorem fTake_eq {n : Nat} (h1 : 0 < n) (h2 : n ≤ 1000000) : fTake [.pool, .dat (.int n)] = .take n fun r => M.ok (.dat (.int (r : Int))) := by
  show (if 0 < (n : Int) ∧ (n : Int) ≤ 1000000 then _ else _) = _
  rw [if_pos (by omega)]
  rfl
theorem take_all {n : Nat} {P : Except Exn R → Prop} (h1 : 0 < n) (h2 : n ≤ 1000000) (h : ∀ r : Nat, r < n → P (.ok (.dat (.int r)))) : (fTake [.pool, .dat (.int n)]).All P := by
  rw [fTake_eq h1 h2]
  exact ⟨h1, h2, h⟩
theorem sPool_eq {i j k : Nat} {ns : List Int} {mk : Ev → M R} (h1 : noPool i ev = true) (h2 : ev[j]? = some (some (.scr ns))) (h3 : mk ev = M.ok (.dat (.int k))) (hk : k ≤ 1000) : sPool i j mk ev = .ret (.next (ev.set i (some .pool))) := by
  unfold sPool
  rw [if_pos (by rw [h1, h2]; rfl)]
  unfold noX mD
  rw [h3]
  show (if okIx (D.int k) = true then _ else _) = _
  rw [if_pos (by simp only [okIx, decide_eq_true_eq]; omega)]
theorem noPool_of {i : Nat} (h : ∀ s ∈ ev.set i none, s ≠ some .pool) : noPool i ev = true := by
  unfold noPool
  rw [List.all_eq_true]
  intro s hs
  split
  · exact absurd rfl (h _ hs)
  · rfl
@[simp] theorem gEq_int {i j : Int} : gEq (.int i) (.int j) = some (.dat (.bl (decide (i = j)))) := by
  show some (R.dat (D.bl (i == j))) = _
  rw [Bool.beq_eq_decide_eq]
@[simp] theorem gNe_int {i j : Int} : gNe (.int i) (.int j) = some (.dat (.bl (!decide (i = j)))) := by
  show some (R.dat (D.bl (!(i == j)))) = _
  rw [Bool.beq_eq_decide_eq]
/-- range(max(a, min(b, len(script)))) -/
theorem rng_cells {a b i : Nat} {ns : List Int} (h : ev[i]? = some (some (.scr ns))) (hn : ns.length ≤ 63) (hab : a ≤ b) (hb : b ≤ 1000) :
    ∃ n : Nat, n ≤ b ∧ (mRng (mCons (mCall gMax (mCons (mC (.int a)) (mCons (mCall gMin (mCons (mC (.int b)) (mCons (mLenS i) (mNil)))) (mNil)))) (mNil))) ev = M.ok (natsD n) := by
  have e : mLenS i ev = M.ok (.dat (.int (ns.length : Int))) := by
    unfold mLenS
    rw [h]
  refine ⟨max a (min b ns.length), by omega, ?_⟩
  simp only [mRng_eq, mCons_eq, mD_eq, mCall_eq, mC_eq, M.ok_bind, R.d_dat, e, mNil_eq, gMin, gMax, mopt_some]
  show (if _ then _ else _) = _
  have q : ((if (if (ns.length : Int) < (b : Int) then (ns.length : Int) else b) > (a : Int) then (if (ns.length : Int) < (b : Int) then (ns.length : Int) else b) else (a : Int))) = ((max a (min b ns.length) : Nat) : Int) := by
    split <;> split <;> omega
  rw [q, if_pos (by omega)]
  rfl
end
end PD

set_option Elab.async false
set_option linter.all false
set_option maxRecDepth 100000
set_option maxHeartbeats 4000000
set_option autoImplicit false
namespace LK
open PySem L2 PD

def top (i : Nat) : Stmt := PySem.Challenge.pw_answersby_k60_ends_related.main.body.getD i (.Pass ⟨0, 0, 0, 0⟩)
abbrev s__law_pool : Stmt := top 10
abbrev s__law_take : Stmt := top 11
abbrev s__law_end : Stmt := top 15
abbrev s_look_at_relation : Stmt := top 7
abbrev s_related : Stmt := top 8
abbrev s__law_refused : Stmt := top 16
abbrev s__law_related : Stmt := top 13
abbrev s__law_relations : Stmt := top 14
abbrev s__law_right : Stmt := top 17
abbrev s_law : Stmt := top 18
def w_counts : Str := ⟨#[99, 111, 117, 110, 116, 115]⟩
def w_nonzero : Str := ⟨#[110, 111, 110, 122, 101, 114, 111]⟩
def w_opposite : Str := ⟨#[111, 112, 112, 111, 115, 105, 116, 101]⟩
def w_same : Str := ⟨#[115, 97, 109, 101]⟩
def w_count : Str := ⟨#[99, 111, 117, 110, 116]⟩
def w_Same : Str := ⟨#[83, 97, 109, 101]⟩
def w_equal : Str := ⟨#[101, 113, 117, 97, 108]⟩
def w_ : Str := ⟨#[]⟩
def w_got : Str := ⟨#[103, 111, 116]⟩
def w_done : Str := ⟨#[100, 111, 110, 101]⟩
def w_no : Str := ⟨#[110, 111]⟩
def w_yes : Str := ⟨#[121, 101, 115]⟩
def w_truth : Str := ⟨#[116, 114, 117, 116, 104]⟩
def w_a : Str := ⟨#[97]⟩
def w_loop : Str := ⟨#[108, 111, 111, 112]⟩
def w_step : Str := ⟨#[115, 116, 101, 112]⟩
def w_raised : Str := ⟨#[114, 97, 105, 115, 101, 100]⟩
def w_has : Str := ⟨#[104, 97, 115]⟩
def w_wrong : Str := ⟨#[119, 114, 111, 110, 103]⟩
def w_ab : Str := ⟨#[97, 98]⟩
def w_barred : Str := ⟨#[98, 97, 114, 114, 101, 100]⟩
def w_size : Str := ⟨#[115, 105, 122, 101]⟩
def w_refused : Str := ⟨#[114, 101, 102, 117, 115, 101, 100]⟩
theorem de_strW {c : Cw} {X : Cx} {W : WX} {x w : Str} {j pos} (h : x = w := by decide +kernel) : DE c X W (.Constant (.str x) j pos) (mC (.str w)) := h ▸ de_str
def g_ANSWERS : D := (.tup [(.str w_yes), (.str w_no), (.str w_count), (.str w_done), (.str w_got)])
def g_RELATIONS : D := (.tup [(.str w_same), (.str w_opposite), (.str w_nonzero), (.str w_counts)])
abbrev F__law_take : List PD.Arg → M R := fTake
def xfOf : Nat → Str
  | 0 => "value"
  | _ => ""
def mt_NoRelation : Nat → Option Bool
  | 0 => some true
  | _ => none
def okx_NoRelation_value : Nat → Bool
  | 0 => true
  | _ => false
def is_NoRelation_AnswerError : Nat → Option Bool
  | 0 => some true
  | _ => none
def is_NoRelation_NoAgreement : Nat → Option Bool
  | 0 => some false
  | _ => none
def m__law_end : Ev → Dr Fl := sSeq (sSet [] 1 (mAsD (mUser 2 F__law_take (gSlot 0 (gDat (mC (.int 12)) (gNil'))))))
    (sSeq (sIf [] (mB (mOp gLt (mVar 1) (mC (.int 4)))) (sRet [] (mOp gIx (mLst (mCons (mTup (mCons (mC (.str w_yes)) (mNil))) (mCons (mTup (mCons (mC (.str w_no)) (mNil))) (mCons (mTup (mCons (mC (.str w_done)) (mNil))) (mCons (mTup (mCons (mC (.str w_got)) (mNil))) (mNil)))))) (mVar 1))) (sNil))
    (sSeq (sIf [] (mB (mOp gLt (mVar 1) (mC (.int 7)))) (sRet [] (mTup (mCons (mC (.str w_count)) (mCons (mUser 2 F__law_take (gSlot 0 (gDat (mC (.int 5)) (gNil')))) (mNil))))) (sNil))
    (sSeq (sIf [] (mB (mOp gEq (mVar 1) (mC (.int 7)))) (sRet [] (mTup (mCons (mC (.str w_loop)) (mCons (mTup (mCons (mTup (mCons (mC (.str w_a)) (mCons (mC (.str w_truth)) (mCons (mC (.int 0)) (mCons (mC .non) (mNil)))))) (mNil))) (mNil))))) (sNil))
    (sRet [] (mOp gIx (mLst (mCons (mTup (mCons (mC (.str w_refused)) (mCons (mC (.str w_size)) (mNil)))) (mCons (mTup (mCons (mC (.str w_barred)) (mCons (mC (.str w_ab)) (mNil)))) (mCons (mTup (mCons (mC (.str w_wrong)) (mCons (mC (.str w_has)) (mNil)))) (mCons (mTup (mCons (mC (.str w_raised)) (mCons (mC (.str w_step)) (mNil)))) (mNil)))))) (mOp gSub (mVar 1) (mC (.int 8))))))))
def F__law_end : List PD.Arg → M R := runF 2 m__law_end
def m_look_at_relation : Ev → Dr Fl := sIf [] (mOrT (mNotT (mB (mIsT "str" (mVar 0)))) (mB (mOp (gIn true) (mVar 0) (mC g_RELATIONS)))) (sRaise [] 0 (mVar 0)) (sNil)
def F_look_at_relation : List PD.Arg → M R := runF 1 m_look_at_relation
def m_related : Ev → Dr Fl := sSeq (sDrop [] (mUser 1 F_look_at_relation (gDat (mVar 0) (gNil'))))
    (sSeq (sSet [] 4 (mLc [5] (.one 5) (mIt (mTup (mCons (mVar 1) (mCons (mVar 2) (mNil))))) (mYesT) (mOp (gIn false) (mOp gIx (mVar 5) (mC (.int 0))) (mC g_ANSWERS))))
    (sSeq (sIf [4] (mB (mOp gNe (mVar 4) (mLst (mCons (mC (.bl true)) (mCons (mC (.bl true)) (mNil)))))) (sRet [4] (mOp gEq (mVar 4) (mLst (mCons (mC (.bl false)) (mCons (mC (.bl false)) (mNil)))))) (sNil))
    (sSeq (sIf [] (mB (mOp gEq (mVar 0) (mC (.str w_same)))) (sRet [] (mOp gEq (mVar 1) (mVar 2))) (sNil))
    (sSeq (sIf [] (mB (mOp gEq (mVar 0) (mC (.str w_opposite)))) (sRet [] (mAnd (mOp (gIn false) (mOp gIx (mVar 1) (mC (.int 0))) (mTup (mCons (mC (.str w_yes)) (mCons (mC (.str w_no)) (mNil))))) (mOp gEq (mOp gIx (mVar 2) (mC (.int 0))) (mIf (mB (mOp gEq (mOp gIx (mVar 1) (mC (.int 0))) (mC (.str w_yes)))) (mC (.str w_no)) (mC (.str w_yes)))))) (sNil))
    (sSeq (sIf [] (mB (mOp gEq (mVar 0) (mC (.str w_nonzero)))) (sRet [] (mAnd (mOp gEq (mOp gIx (mVar 2) (mC (.int 0))) (mC (.str w_count))) (mOp gEq (mOp gIx (mVar 1) (mC (.int 0))) (mIf (mB (mOp gEq (mOp gIx (mVar 2) (mC (.int 1))) (mC (.int 0)))) (mC (.str w_no)) (mC (.str w_yes)))))) (sNil))
    (sRet [] (mAnd (mOp gEq (mVar 1) (mTup (mCons (mC (.str w_count)) (mCons (mVar 3) (mNil))))) (mOp gEq (mVar 2) (mTup (mCons (mC (.str w_done)) (mNil)))))))))))
def F_related : List PD.Arg → M R := runF 6 m_related
def m__law_refused : Ev → Dr Fl := sTry mt_NoRelation 3 (sSeq (sDrop [] (mUser 4 F_related (gDat (mVar 0) (gDat (mVar 1) (gDat (mVar 2) (gDat (mC (.int 0)) (gNil')))))))
    (sRet [] (mC (.bl false)))) (sRet [] (mAnd (mOp gEq (mXf 3 okx_NoRelation_value) (mVar 0)) (mAnd (mIsE 3 is_NoRelation_AnswerError) (mNot (mIsE 3 is_NoRelation_NoAgreement)))))
def F__law_refused : List PD.Arg → M R := runF 4 m__law_refused
def m__law_related : Ev → Dr Fl := sSeq (sSet [] 4 (mAsD (mLst (mCons (mC (.str w_yes)) (mCons (mC (.str w_no)) (mCons (mC (.str w_count)) (mCons (mC (.str w_done)) (mCons (mC (.str w_got)) (mNil)))))))))
    (sSeq (sIf [] (mOrT (mB (mOp (gIn true) (mOp gIx (mVar 1) (mC (.int 0))) (mVar 4))) (mB (mOp (gIn true) (mOp gIx (mVar 2) (mC (.int 0))) (mVar 4)))) (sRet [] (mAnd (mOp (gIn true) (mOp gIx (mVar 1) (mC (.int 0))) (mVar 4)) (mOp (gIn true) (mOp gIx (mVar 2) (mC (.int 0))) (mVar 4)))) (sNil))
    (sSeq (sIf [] (mB (mOp gEq (mVar 0) (mC (.str w_same)))) (sRet [] (mOp gEq (mVar 1) (mVar 2))) (sNil))
    (sSeq (sIf [] (mB (mOp gEq (mVar 0) (mC (.str w_opposite)))) (sRet [] (mOp (gIn false) (mLst (mCons (mVar 1) (mCons (mVar 2) (mNil)))) (mLst (mCons (mLst (mCons (mTup (mCons (mC (.str w_yes)) (mNil))) (mCons (mTup (mCons (mC (.str w_no)) (mNil))) (mNil)))) (mCons (mLst (mCons (mTup (mCons (mC (.str w_no)) (mNil))) (mCons (mTup (mCons (mC (.str w_yes)) (mNil))) (mNil)))) (mNil)))))) (sNil))
    (sSeq (sIf [] (mB (mOp gEq (mVar 0) (mC (.str w_nonzero)))) (sRet [] (mAnd (mOp gEq (mOp gIx (mVar 2) (mC (.int 0))) (mC (.str w_count))) (mOp gEq (mVar 1) (mIf (mB (mOp gGt (mOp gIx (mVar 2) (mC (.int 1))) (mC (.int 0)))) (mTup (mCons (mC (.str w_yes)) (mNil))) (mTup (mCons (mC (.str w_no)) (mNil))))))) (sNil))
    (sRet [] (mAnd (mOp gEq (mOp gIx (mVar 1) (mC (.int 0))) (mC (.str w_count))) (mAnd (mOp gEq (mVar 2) (mTup (mCons (mC (.str w_done)) (mNil)))) (mOp gEq (mOp gIx (mVar 1) (mC (.int 1))) (mVar 3)))))))))
def F__law_related : List PD.Arg → M R := runF 5 m__law_related
def m__law_relations : Ev → Dr Fl := sRet [] (mLst (mCons (mC (.str w_same)) (mCons (mC (.str w_opposite)) (mCons (mC (.str w_nonzero)) (mCons (mC (.str w_counts)) (mNil))))))
def F__law_relations : List PD.Arg → M R := runF 0 m__law_relations
def b__law_right_1 : Ev → Dr Fl := sSeq (sSet [] 4 (mAsD (mUser 4 F_related (gDat (mVar 3) (gDat (mVar 0) (gDat (mVar 1) (gDat (mVar 2) (gNil'))))))))
    (sSeq (sIf [] (mOrT (mNotT (mB (mIsT "bool" (mVar 4)))) (mB (mOp gNe (mVar 4) (mUser 4 F__law_related (gDat (mVar 3) (gDat (mVar 0) (gDat (mVar 1) (gDat (mVar 2) (gNil'))))))))) (sRet [] (mC (.bl false))) (sNil))
    (sIf [] (mB (mOp gNe (mUserK 4 4 F_related [3, 2, 1, 0] (mCons (mVar 2) (mCons (mVar 1) (mCons (mVar 0) (mCons (mVar 3) (mNil)))))) (mVar 4))) (sRet [] (mC (.bl false))) (sNil)))
def m__law_right : Ev → Dr Fl := sSeq (sFor [] (.one 3) (mIt (mUser 0 F__law_relations gNil')) b__law_right_1)
    (sRet [] (mC (.bl true)))
def F__law_right : List PD.Arg → M R := runF 5 m__law_right
def b_law_1 : Ev → Dr Fl := sIf [] (mOrT (mNotT (mB (mUser 3 F__law_right (gDat (mVar 3) (gDat (mVar 4) (gDat (mVar 5) (gNil'))))))) (mNotT (mB (mUser 3 F__law_right (gDat (mVar 4) (gDat (mVar 3) (gDat (mVar 5) (gNil')))))))) (sRet [] (mC (.bl false))) (sNil)
def b_law_2 : Ev → Dr Fl := sIf [] (mNotT (mB (mUser 3 F__law_refused (gDat (mVar 6) (gDat (mVar 3) (gDat (mVar 4) (gNil'))))))) (sRet [] (mC (.bl false))) (sNil)
def b_law_3 : Ev → Dr Fl := sSeq (sPool 2 0 (mVar 1))
    (sSeq (sPar [] [3, 4] (lCons (mAsD (mUser 1 F__law_end (gSlot 2 (gNil')))) (lCons (mAsD (mUser 1 F__law_end (gSlot 2 (gNil')))) (lNil))))
    (sSeq (sIf [] (mB (mOp gEq (mUser 2 F__law_take (gSlot 2 (gDat (mC (.int 4)) (gNil')))) (mC (.int 0)))) (sSet [] 4 (mVar 3)) (sNil))
    (sSeq (sFor [] (.one 5) (mIt (mLst (mCons (mUser 2 F__law_take (gSlot 2 (gDat (mC (.int 7)) (gNil')))) (mCons (mC (.int 0)) (mCons (mIf (mB (mOp gEq (mOp gIx (mVar 4) (mC (.int 0))) (mC (.str w_count)))) (mOp gIx (mVar 4) (mC (.int 1))) (mC (.int 1))) (mNil)))))) b_law_1)
    (sFor [] (.one 6) (mIt (mLst (mCons (mC .non) (mCons (mC (.str w_)) (mCons (mC (.str w_equal)) (mCons (mC (.int 0)) (mCons (mC (.bl true)) (mCons (mLst (mCons (mC (.str w_same)) (mNil))) (mCons (mTup (mCons (mC (.str w_same)) (mNil))) (mCons (mC (.str w_Same)) (mNil))))))))))) b_law_2))))
def m_law : Ev → Dr Fl := sSeq (sIf [] (mB (mOp gNe (mC g_RELATIONS) (mTup (mCons (mC (.str w_same)) (mCons (mC (.str w_opposite)) (mCons (mC (.str w_nonzero)) (mCons (mC (.str w_counts)) (mNil)))))))) (sRet [] (mC (.bl false))) (sNil))
    (sSeq (sFor [] (.one 1) (mRng (mCons (mCall gMax (mCons (mC (.int 1)) (mCons (mCall gMin (mCons (mC (.int 30)) (mCons (mLenS 0) (mNil)))) (mNil)))) (mNil))) b_law_3)
    (sRet [] (mC (.bl true))))
def F_law : List PD.Arg → M R := runF 7 m_law
structure Bt (mg : Str → Option Value) : Prop where
  b_bool : mg "bool" = none
  b_int : mg "int" = none
  b_isinstance : mg "isinstance" = none
  b_len : mg "len" = none
  b_max : mg "max" = none
  b_min : mg "min" = none
  b_range : mg "range" = none
  b_str : mg "str" = none
theorem sc__law_end : FnScope ["_law_pool_here", "_law_way"] ["_law_pool_here"] (defScope s__law_end) := ⟨rfl, rfl, rfl, by decide +kernel, rfl, by decide +kernel, by decide +kernel⟩
theorem sc_look_at_relation : FnScope ["value"] ["value"] (defScope s_look_at_relation) := ⟨rfl, rfl, rfl, by decide +kernel, rfl, by decide +kernel, by decide +kernel⟩
theorem sc_related : FnScope ["relation", "first", "second", "items", "known", "end"] ["relation", "first", "second", "items"] (defScope s_related) := ⟨rfl, rfl, rfl, by decide +kernel, rfl, by decide +kernel, by decide +kernel⟩
theorem sc__law_refused : FnScope ["_law_value", "_law_one_here", "_law_other", "e"] ["_law_value", "_law_one_here", "_law_other"] (defScope s__law_refused) := ⟨rfl, rfl, rfl, by decide +kernel, rfl, by decide +kernel, by decide +kernel⟩
theorem sc__law_related : FnScope ["_law_kind", "_law_one_here", "_law_other", "_law_many", "_law_known"] ["_law_kind", "_law_one_here", "_law_other", "_law_many"] (defScope s__law_related) := ⟨rfl, rfl, rfl, by decide +kernel, rfl, by decide +kernel, by decide +kernel⟩
theorem sc__law_relations : FnScope [] [] (defScope s__law_relations) := ⟨rfl, rfl, rfl, by decide +kernel, rfl, by decide +kernel, by decide +kernel⟩
theorem sc__law_right : FnScope ["_law_one_here", "_law_other", "_law_many", "_law_kind", "_law_told"] ["_law_one_here", "_law_other", "_law_many"] (defScope s__law_right) := ⟨rfl, rfl, rfl, by decide +kernel, rfl, by decide +kernel, by decide +kernel⟩
theorem sc_law : FnScope ["_law_script", "_law_k", "_law_pool_here", "_law_one_here", "_law_other", "_law_many", "_law_wrong"] ["_law_script"] (defScope s_law) := ⟨rfl, rfl, rfl, by decide +kernel, rfl, by decide +kernel, by decide +kernel⟩
section
variable {P : Program} {w : World} {c : Cw} {mg : Str → Option Value} {base : Heap}
structure PoolD (P : Program) (w : World) (c : Cw) (mg : Str → Option Value) (base : Heap) (f : Addr) (fd : FuncData) : Prop where
  ok : FnOk P w c.K mg base (L2.CX P w) 1 f fd ["_law_script", "_law_k"] (spPool c.K)
  mg : mg "_law_pool" = some (.ref f)
  kp : PySem.W.keepIn c.K (.ref f) = true
  b : Binds c.K fd ["_law_script", "_law_k"] []
theorem ok__law_end (B : Bt mg) {f : Addr} {fd : FuncData} (Fx : Fun c.K "_law_end" "_law_end" s__law_end f fd) (D__law_take : Def P w c mg base "_law_take" ["_law_pool_here", "_law_many"] F__law_take 1) :
    FnOk P w c.K mg base (L2.CX P w) 2 f fd ["_law_pool_here"] (spD c 1 F__law_end) :=
  fn_ok Fx sc__law_end fun cdv A outer s H E hr => dss_cons (ds_set (is := []) (i := 1) sc__law_end.nd rfl (by first | exact Or.inl rfl | exact Or.inr rfl) (de_asD (de_callD D__law_take rfl (by exact hr.mono (by decide)) (by exact rfl) (by exact takes_of rfl rfl rfl rfl) (dg_slot 0 (dg_dat (de_int) (dg_nil))))))
    (dss_cons (ds_if (is := []) (dt_cmp opLt (de_var 1) (de_int)) (dss_one (ds_ret (is := []) (de_ix (opIx rfl) (de_lst (da_cons (de_tup (da_cons (de_strW) (da_nil))) (da_cons (de_tup (da_cons (de_strW) (da_nil))) (da_cons (de_tup (da_cons (de_strW) (da_nil))) (da_cons (de_tup (da_cons (de_strW) (da_nil))) (da_nil)))))) (de_var 1)))) (dss_nil))
    (dss_cons (ds_if (is := []) (dt_cmp opLt (de_var 1) (de_int)) (dss_one (ds_ret (is := []) (de_tup (da_cons (de_strW) (da_cons (de_callD D__law_take rfl (by exact hr.mono (by decide)) (by exact rfl) (by exact takes_of rfl rfl rfl rfl) (dg_slot 0 (dg_dat (de_int) (dg_nil)))) (da_nil)))))) (dss_nil))
    (dss_cons (ds_if (is := []) (dt_cmp (opEq rfl (by exact hu64 hr)) (de_var 1) (de_int)) (dss_one (ds_ret (is := []) (de_tup (da_cons (de_strW) (da_cons (de_tup (da_cons (de_tup (da_cons (de_strW) (da_cons (de_strW) (da_cons (de_int) (da_cons (de_non) (da_nil)))))) (da_nil))) (da_nil)))))) (dss_nil))
    (dss_one (ds_ret (is := []) (de_ix (opIx rfl) (de_lst (da_cons (de_tup (da_cons (de_strW) (da_cons (de_strW) (da_nil)))) (da_cons (de_tup (da_cons (de_strW) (da_cons (de_strW) (da_nil)))) (da_cons (de_tup (da_cons (de_strW) (da_cons (de_strW) (da_nil)))) (da_cons (de_tup (da_cons (de_strW) (da_cons (de_strW) (da_nil)))) (da_nil)))))) (de_bin opSub (de_var 1) (de_int))))))))
theorem ok_look_at_relation (B : Bt mg) {f : Addr} {fd : FuncData} (Fx : Fun c.K "look_at_relation" "look_at_relation" s_look_at_relation f fd) (G_RELATIONS : Glob c mg "RELATIONS" g_RELATIONS) (X_NoRelation : Err P w c mg base "NoRelation" 0) :
    FnOk P w c.K mg base (L2.CX P w) 3 f fd ["value"] (spD c 1 F_look_at_relation) :=
  fn_ok Fx sc_look_at_relation fun cdv A outer s H E hr => dss_one (ds_if (is := []) (dt_pw (dw_or (dt_not (dt_val (de_isT (T := "str") rfl (de_var 0) (by exact rfl) B.b_isinstance (by exact rfl) B.b_str (by decide +kernel)))) (dw_or1 (dt_cmp (opNotIn rfl (by exact hu65 hr)) (de_var 0) (de_glob G_RELATIONS (by exact rfl)))))) (dss_one (ds_raiseE (is := []) (i := 0) X_NoRelation rfl (by exact rfl) (by exact takes_of rfl rfl rfl rfl) (by exact hr.mono (by decide)) (by exact rfl) (de_var 0))) (dss_nil))
theorem ok_related (B : Bt mg) {f : Addr} {fd : FuncData} (Fx : Fun c.K "related" "related" s_related f fd) (G_ANSWERS : Glob c mg "ANSWERS" g_ANSWERS) (D_look_at_relation : Def P w c mg base "look_at_relation" ["value"] F_look_at_relation 3) :
    FnOk P w c.K mg base (L2.CX P w) 4 f fd ["relation", "first", "second", "items"] (spD c 4 F_related) :=
  fn_ok Fx sc_related fun cdv A outer s H E hr => dss_cons (ds_drop (is := []) (de_callD D_look_at_relation rfl (by exact hr.mono (by decide)) (by exact rfl) (by exact takes_of rfl rfl rfl rfl) (dg_dat (de_var 0) (dg_nil))))
    (dss_cons (ds_setLc (is := []) (i := 4) (T := (.one 5)) rfl sc_related.nd rfl rfl (sw_true rfl rfl rfl (by decide +kernel)) (di_seq rfl (de_tup (da_cons (de_var 1) (da_cons (de_var 2) (da_nil))))) (by exact blkOk_by (own := [("end", 5)]) (N := ["relation", "first", "second", "items", "known", "end"]) (sc := defScope s_related) (by first | decide +kernel | rfl)) (by exact fun _ _ _ _ _ => pg_name (i := 5) sc_related.nd rfl (by first | exact Or.inl rfl | exact Or.inr rfl)) (by exact fun _ _ _ _ _ => dts_nil) (by exact fun _ _ _ _ _ => de_cmp (opIn rfl (by exact hu65 hr)) (de_ix (opIx rfl) (de_var 5) (de_int)) (de_glob G_ANSWERS (by exact rfl))))
    (dss_cons (ds_if (is := [4]) (dt_cmp (opNe rfl (by exact hu64 hr)) (de_var 4) (de_lst (da_cons (de_bl) (da_cons (de_bl) (da_nil))))) (dss_one (ds_ret (is := [4]) (de_cmp (opEq rfl (by exact hu64 hr)) (de_var 4) (de_lst (da_cons (de_bl) (da_cons (de_bl) (da_nil))))))) (dss_nil))
    (dss_cons (ds_if (is := []) (dt_cmp (opEq rfl (by exact hu64 hr)) (de_var 0) (de_strW)) (dss_one (ds_ret (is := []) (de_cmp (opEq rfl (by exact hu64 hr)) (de_var 1) (de_var 2)))) (dss_nil))
    (dss_cons (ds_if (is := []) (dt_cmp (opEq rfl (by exact hu64 hr)) (de_var 0) (de_strW)) (dss_one (ds_ret (is := []) (de_and (de_cmp (opIn rfl (by exact hu65 hr)) (de_ix (opIx rfl) (de_var 1) (de_int)) (de_tup (da_cons (de_strW) (da_cons (de_strW) (da_nil))))) (de_one (de_cmp (opEq rfl (by exact hu64 hr)) (de_ix (opIx rfl) (de_var 2) (de_int)) (de_if (dt_cmp (opEq rfl (by exact hu64 hr)) (de_ix (opIx rfl) (de_var 1) (de_int)) (de_strW)) (de_strW) (de_strW))))))) (dss_nil))
    (dss_cons (ds_if (is := []) (dt_cmp (opEq rfl (by exact hu64 hr)) (de_var 0) (de_strW)) (dss_one (ds_ret (is := []) (de_and (de_cmp (opEq rfl (by exact hu64 hr)) (de_ix (opIx rfl) (de_var 2) (de_int)) (de_strW)) (de_one (de_cmp (opEq rfl (by exact hu64 hr)) (de_ix (opIx rfl) (de_var 1) (de_int)) (de_if (dt_cmp (opEq rfl (by exact hu64 hr)) (de_ix (opIx rfl) (de_var 2) (de_int)) (de_int)) (de_strW) (de_strW))))))) (dss_nil))
    (dss_one (ds_ret (is := []) (de_and (de_cmp (opEq rfl (by exact hu64 hr)) (de_var 1) (de_tup (da_cons (de_strW) (da_cons (de_var 3) (da_nil))))) (de_one (de_cmp (opEq rfl (by exact hu64 hr)) (de_var 2) (de_tup (da_cons (de_strW) (da_nil)))))))))))))
theorem ok__law_refused (B : Bt mg) {f : Addr} {fd : FuncData} (Fx : Fun c.K "_law_refused" "_law_refused" s__law_refused f fd) (D_related : Def P w c mg base "related" ["relation", "first", "second", "items"] F_related 4) {C_AnswerError : Addr} (mg_AnswerError : mg "AnswerError" = some (.ref C_AnswerError)) {C_NoAgreement : Addr} (mg_NoAgreement : mg "NoAgreement" = some (.ref C_NoAgreement)) {C_NoRelation : Addr} (mg_NoRelation : mg "NoRelation" = some (.ref C_NoRelation)) (Hm_NoRelation : ∀ k b, mt_NoRelation k = some b → PySem.W.exmOne c.K (.ref (c.xc k)) (.ref C_NoRelation) = some b) (Hx_NoRelation_value : ∀ k, okx_NoRelation_value k = true → c.xf k = "value" ∧ XfC c.K (c.xc k) ∧ PySem.W.findIn c.K (.ref (c.xc k)) "value" = some none) (Hi_NoRelation_AnswerError : ∀ k b, is_NoRelation_AnswerError k = some b → PySem.W.kitOne c.K (.ref (c.xc k)) (.ref C_AnswerError) = some b ∧ ExcC c.K (c.xc k)) (Hi_NoRelation_NoAgreement : ∀ k b, is_NoRelation_NoAgreement k = some b → PySem.W.kitOne c.K (.ref (c.xc k)) (.ref C_NoAgreement) = some b ∧ ExcC c.K (c.xc k)) :
    FnOk P w c.K mg base (L2.CX P w) 5 f fd ["_law_value", "_law_one_here", "_law_other"] (spD c 3 F__law_refused) :=
  fn_ok Fx sc__law_refused fun cdv A outer s H E hr => dss_one (ds_try (i := 3) (mt := mt_NoRelation) rfl rfl sc__law_refused.nd rfl rfl ⟨rfl, by decide, Or.inl mg_NoRelation⟩ (by exact takes_of rfl rfl rfl rfl) Hm_NoRelation (fun W pn xe tk hpx => dss_cons (ds_drop (is := []) (de_callD D_related rfl (by exact hr.mono (by decide)) (by exact rfl) tk (dg_dat (de_var 0) (dg_dat (de_var 1) (dg_dat (de_var 2) (dg_dat (de_int) (dg_nil)))))))
    (dss_one (ds_ret (is := []) (de_bl)))) (fun a oe cls dd pn hz hv => dss_one (ds_ret (is := []) (de_and (de_cmp (opEq rfl (by exact hm64 hr)) (de_xf 3 (ok := okx_NoRelation_value) Hx_NoRelation_value hz hv) (de_var 0)) (de_and (de_isE 3 (is := is_NoRelation_AnswerError) Hi_NoRelation_AnswerError hz hv (pe_glob (v := .ref C_AnswerError) rfl mg_AnswerError rfl) (fun _ h => h) rfl B.b_isinstance) (de_one (de_not (de_isE 3 (is := is_NoRelation_NoAgreement) Hi_NoRelation_NoAgreement hz hv (pe_glob (v := .ref C_NoAgreement) rfl mg_NoAgreement rfl) (fun _ h => h) rfl B.b_isinstance))))))))
theorem ok__law_related (B : Bt mg) {f : Addr} {fd : FuncData} (Fx : Fun c.K "_law_related" "_law_related" s__law_related f fd)  :
    FnOk P w c.K mg base (L2.CX P w) 2 f fd ["_law_kind", "_law_one_here", "_law_other", "_law_many"] (spD c 4 F__law_related) :=
  fn_ok Fx sc__law_related fun cdv A outer s H E hr => dss_cons (ds_set (is := []) (i := 4) sc__law_related.nd rfl (by first | exact Or.inl rfl | exact Or.inr rfl) (de_asD (de_lst (da_cons (de_strW) (da_cons (de_strW) (da_cons (de_strW) (da_cons (de_strW) (da_cons (de_strW) (da_nil)))))))))
    (dss_cons (ds_if (is := []) (dt_pw (dw_or (dt_cmp (opNotIn rfl (by exact hu65 hr)) (de_ix (opIx rfl) (de_var 1) (de_int)) (de_var 4)) (dw_or1 (dt_cmp (opNotIn rfl (by exact hu65 hr)) (de_ix (opIx rfl) (de_var 2) (de_int)) (de_var 4))))) (dss_one (ds_ret (is := []) (de_and (de_cmp (opNotIn rfl (by exact hu65 hr)) (de_ix (opIx rfl) (de_var 1) (de_int)) (de_var 4)) (de_one (de_cmp (opNotIn rfl (by exact hu65 hr)) (de_ix (opIx rfl) (de_var 2) (de_int)) (de_var 4)))))) (dss_nil))
    (dss_cons (ds_if (is := []) (dt_cmp (opEq rfl (by exact hu64 hr)) (de_var 0) (de_strW)) (dss_one (ds_ret (is := []) (de_cmp (opEq rfl (by exact hu64 hr)) (de_var 1) (de_var 2)))) (dss_nil))
    (dss_cons (ds_if (is := []) (dt_cmp (opEq rfl (by exact hu64 hr)) (de_var 0) (de_strW)) (dss_one (ds_ret (is := []) (de_cmp (opIn rfl (by exact hu65 hr)) (de_lst (da_cons (de_var 1) (da_cons (de_var 2) (da_nil)))) (de_lst (da_cons (de_lst (da_cons (de_tup (da_cons (de_strW) (da_nil))) (da_cons (de_tup (da_cons (de_strW) (da_nil))) (da_nil)))) (da_cons (de_lst (da_cons (de_tup (da_cons (de_strW) (da_nil))) (da_cons (de_tup (da_cons (de_strW) (da_nil))) (da_nil)))) (da_nil))))))) (dss_nil))
    (dss_cons (ds_if (is := []) (dt_cmp (opEq rfl (by exact hu64 hr)) (de_var 0) (de_strW)) (dss_one (ds_ret (is := []) (de_and (de_cmp (opEq rfl (by exact hu64 hr)) (de_ix (opIx rfl) (de_var 2) (de_int)) (de_strW)) (de_one (de_cmp (opEq rfl (by exact hu64 hr)) (de_var 1) (de_if (dt_cmp opGt (de_ix (opIx rfl) (de_var 2) (de_int)) (de_int)) (de_tup (da_cons (de_strW) (da_nil))) (de_tup (da_cons (de_strW) (da_nil))))))))) (dss_nil))
    (dss_one (ds_ret (is := []) (de_and (de_cmp (opEq rfl (by exact hu64 hr)) (de_ix (opIx rfl) (de_var 1) (de_int)) (de_strW)) (de_and (de_cmp (opEq rfl (by exact hu64 hr)) (de_var 2) (de_tup (da_cons (de_strW) (da_nil)))) (de_one (de_cmp (opEq rfl (by exact hu64 hr)) (de_ix (opIx rfl) (de_var 1) (de_int)) (de_var 3)))))))))))
theorem ok__law_relations (B : Bt mg) {f : Addr} {fd : FuncData} (Fx : Fun c.K "_law_relations" "_law_relations" s__law_relations f fd)  :
    FnOk P w c.K mg base (L2.CX P w) 2 f fd [] (spD c 0 F__law_relations) :=
  fn_ok Fx sc__law_relations fun cdv A outer s H E hr => dss_one (ds_ret (is := []) (de_lst (da_cons (de_strW) (da_cons (de_strW) (da_cons (de_strW) (da_cons (de_strW) (da_nil)))))))
theorem ok__law_right (B : Bt mg) {f : Addr} {fd : FuncData} (Fx : Fun c.K "_law_right" "_law_right" s__law_right f fd) (D_related : Def P w c mg base "related" ["relation", "first", "second", "items"] F_related 4) (D__law_related : Def P w c mg base "_law_related" ["_law_kind", "_law_one_here", "_law_other", "_law_many"] F__law_related 2) (D__law_relations : Def P w c mg base "_law_relations" [] F__law_relations 2) (K_related : DefK P w c mg base "related" ["relation", "first", "second", "items"] ["items", "second", "first", "relation"] [3, 2, 1, 0] F_related 4) :
    FnOk P w c.K mg base (L2.CX P w) 5 f fd ["_law_one_here", "_law_other", "_law_many"] (spD c 3 F__law_right) :=
  fn_ok Fx sc__law_right fun cdv A outer s H E hr => dss_cons (ds_for (is := []) (T := (.one 3)) (by exact passes_of rfl) rfl (di_seq rfl (de_callD0 D__law_relations rfl (by exact hr.mono (by decide)) (by exact rfl) (by exact takes_of rfl rfl rfl rfl))) (pg_name (i := 3) sc__law_right.nd rfl (by first | exact Or.inl rfl | exact Or.inr rfl)) (dss_cons (ds_set (is := []) (i := 4) sc__law_right.nd rfl (by first | exact Or.inl rfl | exact Or.inr rfl) (de_asD (de_callD D_related rfl (by exact hr.mono (by decide)) (by exact rfl) (by exact takes_of rfl rfl rfl rfl) (dg_dat (de_var 3) (dg_dat (de_var 0) (dg_dat (de_var 1) (dg_dat (de_var 2) (dg_nil))))))))
    (dss_cons (ds_if (is := []) (dt_pw (dw_or (dt_not (dt_val (de_isT (T := "bool") rfl (de_var 4) (by exact rfl) B.b_isinstance (by exact rfl) B.b_bool (by decide +kernel)))) (dw_or1 (dt_cmp (opNe rfl (by exact hu64 hr)) (de_var 4) (de_callD D__law_related rfl (by exact hr.mono (by decide)) (by exact rfl) (by exact takes_of rfl rfl rfl rfl) (dg_dat (de_var 3) (dg_dat (de_var 0) (dg_dat (de_var 1) (dg_dat (de_var 2) (dg_nil)))))))))) (dss_one (ds_ret (is := []) (de_bl))) (dss_nil))
    (dss_one (ds_if (is := []) (dt_cmp (opNe rfl (by exact hu64 hr)) (de_callKD K_related rfl (by exact hr.mono (by decide)) (by exact rfl) (by exact takes_of rfl rfl rfl rfl) (dk_cons (de_var 2) (dk_cons (de_var 1) (dk_cons (de_var 0) (dk_cons (de_var 3) (dk_nil)))))) (de_var 4)) (dss_one (ds_ret (is := []) (de_bl))) (dss_nil))))))
    (dss_one (ds_ret (is := []) (de_bl)))
theorem ok_law (B : Bt mg) {f : Addr} {fd : FuncData} (Fx : Fun c.K "law" "law" s_law f fd) (G_RELATIONS : Glob c mg "RELATIONS" g_RELATIONS) {fP : Addr} {fdP : FuncData} (PoolOk : PoolD P w c mg base fP fdP) (D__law_take : Def P w c mg base "_law_take" ["_law_pool_here", "_law_many"] F__law_take 1) (D__law_end : Def P w c mg base "_law_end" ["_law_pool_here"] F__law_end 2) (D__law_refused : Def P w c mg base "_law_refused" ["_law_value", "_law_one_here", "_law_other"] F__law_refused 5) (D__law_right : Def P w c mg base "_law_right" ["_law_one_here", "_law_other", "_law_many"] F__law_right 5) :
    FnOk P w c.K mg base (L2.CX P w) 6 f fd ["_law_script"] (spD c 1 F_law) :=
  fn_ok Fx sc_law fun cdv A outer s H E hr => dss_cons (ds_if (is := []) (dt_cmp (opNe rfl (by exact hu64 hr)) (de_glob G_RELATIONS (by exact rfl)) (de_tup (da_cons (de_strW) (da_cons (de_strW) (da_cons (de_strW) (da_cons (de_strW) (da_nil))))))) (dss_one (ds_ret (is := []) (de_bl))) (dss_nil))
    (dss_cons (ds_for (is := []) (T := (.one 1)) (by exact passes_of rfl) rfl (di_range (da_cons (de_blt (callMax rfl) (by exact rfl) B.b_max (by decide +kernel) (da_cons (de_int) (da_cons (de_blt (callMin rfl) (by exact rfl) B.b_min (by decide +kernel) (da_cons (de_int) (da_cons (de_lenS 0 rfl (by exact rfl) B.b_len) (da_nil)))) (da_nil)))) (da_nil)) (by exact rfl) B.b_range) (pg_name (i := 1) sc_law.nd rfl (by first | exact Or.inl rfl | exact Or.inr rfl)) (dss_cons (ds_pool (i := 2) (j := 0) rfl PoolOk.ok (by exact hr.mono (by decide)) (by exact rfl) PoolOk.mg PoolOk.kp PoolOk.b (by exact takes_of rfl rfl rfl rfl) sc_law.nd rfl (by first | exact Or.inl rfl | exact Or.inr rfl) (de_var 1))
    (dss_cons (ds_par (is := []) (i := 3) (j := 4) rfl sc_law.nd rfl rfl (by decide) rfl rfl (dl_cons (de_asD (de_callD D__law_end rfl (by exact hr.mono (by decide)) (by exact rfl) (by exact takes_of rfl rfl rfl rfl) (dg_slot 2 (dg_nil)))) (dl_cons (de_asD (de_callD D__law_end rfl (by exact hr.mono (by decide)) (by exact rfl) (by exact takes_of rfl rfl rfl rfl) (dg_slot 2 (dg_nil)))) (dl_nil))) (by rfl))
    (dss_cons (ds_if (is := []) (dt_cmp (opEq rfl (by exact hu64 hr)) (de_callD D__law_take rfl (by exact hr.mono (by decide)) (by exact rfl) (by exact takes_of rfl rfl rfl rfl) (dg_slot 2 (dg_dat (de_int) (dg_nil)))) (de_int)) (dss_one (ds_set (is := []) (i := 4) sc_law.nd rfl (by first | exact Or.inl rfl | exact Or.inr rfl) (de_var 3))) (dss_nil))
    (dss_cons (ds_for (is := []) (T := (.one 5)) (by exact passes_of rfl) rfl (di_seq rfl (de_lst (da_cons (de_callD D__law_take rfl (by exact hr.mono (by decide)) (by exact rfl) (by exact takes_of rfl rfl rfl rfl) (dg_slot 2 (dg_dat (de_int) (dg_nil)))) (da_cons (de_int) (da_cons (de_if (dt_cmp (opEq rfl (by exact hu64 hr)) (de_ix (opIx rfl) (de_var 4) (de_int)) (de_strW)) (de_ix (opIx rfl) (de_var 4) (de_int)) (de_int)) (da_nil)))))) (pg_name (i := 5) sc_law.nd rfl (by first | exact Or.inl rfl | exact Or.inr rfl)) (dss_one (ds_if (is := []) (dt_pw (dw_or (dt_not (dt_val (de_callD D__law_right rfl (by exact hr.mono (by decide)) (by exact rfl) (by exact takes_of rfl rfl rfl rfl) (dg_dat (de_var 3) (dg_dat (de_var 4) (dg_dat (de_var 5) (dg_nil))))))) (dw_or1 (dt_not (dt_val (de_callD D__law_right rfl (by exact hr.mono (by decide)) (by exact rfl) (by exact takes_of rfl rfl rfl rfl) (dg_dat (de_var 4) (dg_dat (de_var 3) (dg_dat (de_var 5) (dg_nil)))))))))) (dss_one (ds_ret (is := []) (de_bl))) (dss_nil))))
    (dss_one (ds_for (is := []) (T := (.one 6)) (by exact passes_of rfl) rfl (di_seq rfl (de_lst (da_cons (de_non) (da_cons (de_strW) (da_cons (de_strW) (da_cons (de_int) (da_cons (de_bl) (da_cons (de_lst (da_cons (de_strW) (da_nil))) (da_cons (de_tup (da_cons (de_strW) (da_nil))) (da_cons (de_strW) (da_nil))))))))))) (pg_name (i := 6) sc_law.nd rfl (by first | exact Or.inl rfl | exact Or.inr rfl)) (dss_one (ds_if (is := []) (dt_not (dt_val (de_callD D__law_refused rfl (by exact hr.mono (by decide)) (by exact rfl) (by exact takes_of rfl rfl rfl rfl) (dg_dat (de_var 6) (dg_dat (de_var 3) (dg_dat (de_var 4) (dg_nil))))))) (dss_one (ds_ret (is := []) (de_bl))) (dss_nil))))))))))
    (dss_one (ds_ret (is := []) (de_bl))))
end
end LK

set_option Elab.async false
set_option linter.all false
set_option maxRecDepth 100000
set_option maxHeartbeats 4000000
set_option autoImplicit false
namespace LK
open PySem L2 PD
theorem sc__law_take : FnScope ["_law_pool_here", "_law_many", "_law_found"] ["_law_pool_here", "_law_many"] (defScope s__law_take) := ⟨rfl, rfl, rfl, by decide +kernel, rfl, by decide +kernel, by decide +kernel⟩
theorem sc__law_pool : FnScope ["_law_script", "_law_k", "_law_cell", "_law_size"] ["_law_script", "_law_k"] (defScope s__law_pool) := ⟨rfl, rfl, rfl, by decide +kernel, rfl, by decide +kernel, by decide +kernel⟩
section
variable {P : Program} {w : World} {c : Cw} {mg : Str → Option Value} {base : Heap}
theorem ok__law_take (B : Bt mg) {f : Addr} {fd : FuncData} (Fx : Fun c.K "_law_take" "_law_take" s__law_take f fd) (hm : mg "_law_take" = some (.ref f)) (b : Binds c.K fd ["_law_pool_here", "_law_many"] []) :
    Def P w c mg base "_law_take" ["_law_pool_here", "_law_many"] F__law_take 1 := by
  refine ⟨f, fd, take_ok ?_, hm, Fx.kp, b⟩
  refine Fx.okX sc__law_take (fun vs H Q E h => ?_) fun cdv A outer s H vs Q E hr h => ?_
  · obtain ⟨a, n, rfl, _⟩ := h
    rfl
  obtain ⟨a, n, rfl, ⟨x, y, hp, hx, hy, hy2⟩, hn, hn2, q⟩ := h
  refine ⟨_, pss_cons (ps_if (pt_cmpR op_gt (pe_ix ix_list (pv 0) pe_int (fun _ _ => rfl)) pe_int (nomark _))
    (pss_cons (ps_set (i := 2) sc__law_take.nd rfl (Or.inl rfl) (pe_op op_mod (pe_callTy call_int1 rfl B.b_int (by decide +kernel) (pa_cons (pe_ix ix_list (pv 0) pe_int (fun _ _ => rfl)) pa_nil)) (pv 1)))
    (pss_cons (ps_asg (pe_op op_fdiv (pe_ix ix_list (pv 0) pe_int (fun _ _ => rfl)) (pv 1)) (pg_sub (pv 0) pe_int set_list))
    (pss_one (ps_ret (pv 2))))) pss_nil)
    (pss_cons (ps_asg (pe_op op_mod (pe_callTy call_int1 rfl B.b_int (by decide +kernel) (pa_cons (pe_op op_add (pe_op op_mul (pe_ix ix_list (pv 0) pe_int (fun _ _ => rfl)) pe_int) pe_int) pa_nil)) pe_int) (pg_sub (pv 0) pe_int set_list))
    (pss_one (ps_ret (pe_op op_mod (pe_op op_fdiv (pe_op op_mod (pe_callTy call_int1 rfl B.b_int (by decide +kernel) (pa_cons (pe_op op_mul (pe_ix ix_list (pv 0) pe_int (fun _ _ => rfl)) (pe_ix ix_list (pv 0) pe_int (fun _ _ => rfl))) pa_nil)) pe_int) pe_int) (pv 1))))), ?_⟩
  refine ⟨_, rfl, a, _, _, _, rfl, rfl, SqL.of hp, rfl, _, _, rfl, rfl, _, rfl, ite2 (fun h => ?_) fun h => ?_⟩
  · refine ⟨_, rfl, a, _, _, _, rfl, rfl, SqL.of hp, rfl, .inl ⟨_, rfl, _, rfl, _, _, rfl, rfl, hn, ?_⟩⟩
    refine ⟨_, rfl, a, _, _, _, rfl, rfl, SqL.of hp, rfl, _, rfl, _, _, rfl, rfl, ⟨hn, by omega⟩, ?_⟩
    refine ⟨_, rfl, a, _, _, 0, rfl, rfl, hp, rfl, ?_⟩
    refine ⟨_, rfl, ?_⟩
    exact q _ _ _ (Int.emod_nonneg _ (by omega)) (Int.emod_lt_of_pos _ hn) (Int.ediv_nonneg hx (by omega)) hy hy2
  · refine ⟨_, rfl, a, _, _, _, rfl, rfl, SqL.of hp, rfl, _, _, rfl, rfl, .inl ⟨by omega, by omega⟩, _, _, rfl, rfl, .inl ⟨_, rfl, _, _, rfl, rfl, (by decide : (0 : Int) < 2147483647), ?_⟩⟩
    refine ⟨_, rfl, a, _, _, 1, rfl, rfl, hp, rfl, ?_⟩
    have h1 : 0 ≤ (y * 48271 + 11) % 2147483647 := Int.emod_nonneg _ (by decide)
    have h2 : (y * 48271 + 11) % 2147483647 < 2147483647 := Int.emod_lt_of_pos _ (by decide)
    refine ⟨_, rfl, a, _, _, _, rfl, rfl, SqL.of upd_same, rfl, _, rfl, a, _, _, _, rfl, rfl, SqL.of upd_same, rfl, _, _, rfl, rfl, .inl ⟨by omega, by omega⟩, .inl ⟨_, rfl, _, _, rfl, rfl, (by decide : (0 : Int) < 2147483629), _, _, rfl, rfl, ⟨by decide, by decide⟩, ?_⟩⟩
    refine ⟨_, rfl, _, _, rfl, rfl, hn, ?_⟩
    exact q _ _ _ (Int.emod_nonneg _ (by omega)) (Int.emod_lt_of_pos _ hn) hx h1 h2
theorem ok__law_pool (B : Bt mg) {f : Addr} {fd : FuncData} (Fx : Fun c.K "_law_pool" "_law_pool" s__law_pool f fd) (hm : mg "_law_pool" = some (.ref f)) (b : Binds c.K fd ["_law_script", "_law_k"] []) :
    PoolD P w c mg base f fd := by
  refine ⟨?_, hm, Fx.kp, b⟩
  refine Fx.okX sc__law_pool (fun vs H Q E h => ?_) fun cdv A outer s H vs Q E hr h => ?_
  · obtain ⟨a, ns, k, rfl, _⟩ := h
    rfl
  obtain ⟨a, ns, k, rfl, hS, hl, hk, hk2, q⟩ := h
  refine ⟨_, pss_cons (ps_set (i := 2) sc__law_pool.nd rfl (Or.inl rfl) pe_int)
    (pss_cons (ps_if (pt_cmpR op_lt (pv 1) (pe_callB call_len_seq (by rfl) B.b_len PySem.boot_len (pa_cons (pv 0) pa_nil)) (nomark _))
      (pss_one (ps_set (i := 2) sc__law_pool.nd rfl (Or.inl rfl) (pe_ix ix_list (pv 0) (pv 1) (fun _ _ => rfl)))) pss_nil)
    (pss_cons (ps_set (i := 3) sc__law_pool.nd rfl (Or.inl rfl) (pe_callB (call_max2 rfl) (by rfl) B.b_max (by decide +kernel) (pa_cons (pv 2) (pa_cons (pe_op op_sub (pe_un un_neg pe_int) (pv 2)) pa_nil))))
    (pss_one (ps_ret (pe_lst (pa_cons (pe_op op_mul (pv 3) (pe_callTy call_int1 rfl B.b_int (by decide +kernel) (pa_cons (pe_cmpR op_ge (pv 3) (pe_op op_pow pe_int pe_int) (nomark _)) pa_nil)))
      (pa_cons (pe_op op_mod (pe_op op_mul (pe_callTy call_int1 rfl B.b_int (by decide +kernel) (pa_cons (pe_op op_add (pe_op op_add (pe_op op_mod (pe_callTy call_int1 rfl B.b_int (by decide +kernel) (pa_cons (pv 3) pa_nil)) pe_int) (pe_op op_mul pe_int (pv 1))) pe_int) pa_nil)) pe_int) pe_int) pa_nil))))))), ?_⟩
  obtain ⟨j, rfl⟩ : ∃ j : Nat, k = (j : Int) := ⟨k.toNat, by omega⟩
  have b01 : ∀ b : Bool, -(2 ^ 64) < (if b = true then (1 : Int) else 0) ∧ (if b = true then (1 : Int) else 0) < 2 ^ 64 := by decide
  have n01 : ∀ b : Bool, 0 ≤ (if b = true then (1 : Int) else 0) := by decide
  have pos : ∀ z : Int, 0 ≤ (if -1 - z > z then -1 - z else z) := fun z => by split <;> omega
  refine ⟨_, rfl, _, rfl, a, _, rfl, .inl hS, _, _, rfl, rfl, _, rfl, ite2 (fun h => ?_) fun h => ?_⟩
  rotate_left
  · refine ⟨_, rfl, _, rfl, _, rfl, _, _, rfl, rfl, _, _, rfl, ?_⟩
    refine ⟨_, rfl, _, rfl, _, _, rfl, rfl, ⟨by decide, by decide, by decide⟩, _, _, rfl, rfl, .inr ⟨_, rfl, _, _, rfl, rfl, .inr ?_, ?_⟩⟩
    · exact b01 _
    refine ⟨_, rfl, .inl ⟨_, rfl, _, _, rfl, rfl, (by decide : (0 : Int) < 2147483629), _, rfl, _, _, rfl, rfl, .inl ⟨by decide, by decide⟩, _, _, rfl, rfl, _, _, rfl, rfl, .inl ⟨_, rfl, _, _, rfl, rfl, .inr ⟨by decide, by decide⟩, _, _, rfl, rfl, (by decide : (0 : Int) < 2147483647), ?_⟩⟩⟩
    refine ⟨by show 2 ≤ sizeLine; decide, fun l hl => q l _ _ hl (Int.mul_nonneg (pos _) (n01 _)) (Int.emod_nonneg _ (by decide)) (Int.emod_lt_of_pos _ (by decide))⟩
  · have hj : j < ns.length := by
      have := of_decide_eq_true h
      rw [List.length_map] at this
      omega
    refine ⟨_, rfl, _, rfl, a, _, _, .int ns[j], rfl, rfl, hS, atI_nat (by rw [List.getElem?_map, List.getElem?_eq_getElem hj]; rfl), ?_⟩
    refine ⟨_, rfl, _, rfl, _, rfl, _, _, rfl, rfl, _, _, rfl, ?_⟩
    refine ⟨_, rfl, _, rfl, _, _, rfl, rfl, ⟨by decide, by decide, by decide⟩, _, _, rfl, rfl, .inr ⟨_, rfl, _, _, rfl, rfl, .inr ?_, ?_⟩⟩
    · exact b01 _
    refine ⟨_, rfl, .inl ⟨_, rfl, _, _, rfl, rfl, (by decide : (0 : Int) < 2147483629), _, rfl, _, _, rfl, rfl, .inl ⟨by decide, by decide⟩, _, _, rfl, rfl, _, _, rfl, rfl, .inl ⟨_, rfl, _, _, rfl, rfl, .inr ⟨by decide, by decide⟩, _, _, rfl, rfl, (by decide : (0 : Int) < 2147483647), ?_⟩⟩⟩
    refine ⟨by show 2 ≤ sizeLine; decide, fun l hl => q l _ _ hl (Int.mul_nonneg (pos _) (n01 _)) (Int.emod_nonneg _ (by decide)) (Int.emod_lt_of_pos _ (by decide))⟩
end
end LK

set_option Elab.async false
set_option linter.all false
set_option maxRecDepth 100000
set_option maxHeartbeats 0
set_option autoImplicit false
namespace LK
open PySem L2 PD
def ends : List D := [.tup [.str w_yes], .tup [.str w_no], .tup [.str w_done], .tup [.str w_got], .tup [.str w_count, .int 0], .tup [.str w_count, .int 1], .tup [.str w_count, .int 2], .tup [.str w_count, .int 3], .tup [.str w_count, .int 4],
  .tup [.str w_loop, .tup [.tup [.str w_a, .str w_truth, .int 0, .non]]], .tup [.str w_refused, .str w_size], .tup [.str w_barred, .str w_ab], .tup [.str w_wrong, .str w_has], .tup [.str w_raised, .str w_step]]
theorem end_mem : (F__law_end [.pool]).All fun o => ∃ d ∈ ends, o = .ok (.dat d) :=
  (Dr.all_of (p := outIn ends) (by decide +kernel)).imp fun _ h => outIn_ex h
def yesR (x : M R) : Bool := match x with
  | .ret (.ok (.dat (.bl true))) => true
  | _ => false
theorem yesR_eq {x : M R} (h : yesR x = true) : x = M.ok (.dat (.bl true)) := by
  unfold yesR at h
  split at h
  · rfl
  · cases h
def wrongs : List D := [.non, .str w_, .str w_equal, .int 0, .bl true, .lst [.str w_same], .tup [.str w_same], .str w_Same]
def chk (a : D) : Bool := ends.all fun b => ((List.range 7).all fun m => yesR (F__law_right [.dat a, .dat b, .dat (.int m)])) && wrongs.all fun w => yesR (F__law_refused [.dat w, .dat a, .dat b])
theorem chk_0 : (ends[0]?.map chk) = some true := by decide +kernel
theorem chk_1 : (ends[1]?.map chk) = some true := by decide +kernel
theorem chk_2 : (ends[2]?.map chk) = some true := by decide +kernel
theorem chk_3 : (ends[3]?.map chk) = some true := by decide +kernel
theorem chk_4 : (ends[4]?.map chk) = some true := by decide +kernel
theorem chk_5 : (ends[5]?.map chk) = some true := by decide +kernel
theorem chk_6 : (ends[6]?.map chk) = some true := by decide +kernel
theorem chk_7 : (ends[7]?.map chk) = some true := by decide +kernel
theorem chk_8 : (ends[8]?.map chk) = some true := by decide +kernel
theorem chk_9 : (ends[9]?.map chk) = some true := by decide +kernel
theorem chk_10 : (ends[10]?.map chk) = some true := by decide +kernel
theorem chk_11 : (ends[11]?.map chk) = some true := by decide +kernel
theorem chk_12 : (ends[12]?.map chk) = some true := by decide +kernel
theorem chk_13 : (ends[13]?.map chk) = some true := by decide +kernel
end LK

set_option Elab.async false
set_option linter.all false
set_option maxRecDepth 100000
set_option maxHeartbeats 400000
set_option autoImplicit false
namespace LK
open PySem L2 PD
theorem chk_all : ∀ a ∈ ends, chk a = true := by
  intro a ha
  simp only [ends, List.mem_cons, List.not_mem_nil, or_false] at ha
  rcases ha with rfl | rfl | rfl | rfl | rfl | rfl | rfl | rfl | rfl | rfl | rfl | rfl | rfl | rfl
  · have h := chk_0
    simp only [ends, List.getElem?_cons_zero, List.getElem?_cons_succ, Option.map_some, Option.some.injEq] at h
    exact h
  · have h := chk_1
    simp only [ends, List.getElem?_cons_zero, List.getElem?_cons_succ, Option.map_some, Option.some.injEq] at h
    exact h
  · have h := chk_2
    simp only [ends, List.getElem?_cons_zero, List.getElem?_cons_succ, Option.map_some, Option.some.injEq] at h
    exact h
  · have h := chk_3
    simp only [ends, List.getElem?_cons_zero, List.getElem?_cons_succ, Option.map_some, Option.some.injEq] at h
    exact h
  · have h := chk_4
    simp only [ends, List.getElem?_cons_zero, List.getElem?_cons_succ, Option.map_some, Option.some.injEq] at h
    exact h
  · have h := chk_5
    simp only [ends, List.getElem?_cons_zero, List.getElem?_cons_succ, Option.map_some, Option.some.injEq] at h
    exact h
  · have h := chk_6
    simp only [ends, List.getElem?_cons_zero, List.getElem?_cons_succ, Option.map_some, Option.some.injEq] at h
    exact h
  · have h := chk_7
    simp only [ends, List.getElem?_cons_zero, List.getElem?_cons_succ, Option.map_some, Option.some.injEq] at h
    exact h
  · have h := chk_8
    simp only [ends, List.getElem?_cons_zero, List.getElem?_cons_succ, Option.map_some, Option.some.injEq] at h
    exact h
  · have h := chk_9
    simp only [ends, List.getElem?_cons_zero, List.getElem?_cons_succ, Option.map_some, Option.some.injEq] at h
    exact h
  · have h := chk_10
    simp only [ends, List.getElem?_cons_zero, List.getElem?_cons_succ, Option.map_some, Option.some.injEq] at h
    exact h
  · have h := chk_11
    simp only [ends, List.getElem?_cons_zero, List.getElem?_cons_succ, Option.map_some, Option.some.injEq] at h
    exact h
  · have h := chk_12
    simp only [ends, List.getElem?_cons_zero, List.getElem?_cons_succ, Option.map_some, Option.some.injEq] at h
    exact h
  · have h := chk_13
    simp only [ends, List.getElem?_cons_zero, List.getElem?_cons_succ, Option.map_some, Option.some.injEq] at h
    exact h
theorem right_ok {a b : D} (ha : a ∈ ends) (hb : b ∈ ends) {m : Nat} (hm : m < 7) : F__law_right [.dat a, .dat b, .dat (.int m)] = M.ok (.dat (.bl true)) := by
  have h := chk_all a ha
  simp only [chk, List.all_eq_true, Bool.and_eq_true, List.mem_range] at h
  exact yesR_eq ((h b hb).1 m hm)
theorem refused_ok {a b w : D} (ha : a ∈ ends) (hb : b ∈ ends) (hw : w ∈ wrongs) : F__law_refused [.dat w, .dat a, .dat b] = M.ok (.dat (.bl true)) := by
  have h := chk_all a ha
  simp only [chk, List.all_eq_true, Bool.and_eq_true, List.mem_range] at h
  exact yesR_eq ((h b hb).2 w hw)
/-- no pool stands there -/
def NP (s : Option Sl) : Prop := s ≠ some .pool
theorem np {d : D} : NP (some (.dat d)) := by unfold NP; simp
theorem np0 : NP none := by unfold NP; simp
/-- the slots of the law -/
def I (ns : List Int) (ev : Ev) : Prop := ∃ k p a b m w, ev = [some (.scr ns), k, p, a, b, m, w] ∧ NP k ∧ NP a ∧ NP b ∧ NP m ∧ NP w
/-- with two ends drawn -/
def J (ns : List Int) (ev : Ev) : Prop := ∃ k p a b m w, ev = [some (.scr ns), k, p, some (.dat a), some (.dat b), m, w] ∧ NP k ∧ NP m ∧ NP w ∧ a ∈ ends ∧ b ∈ ends
theorem J.i {ns : List Int} {ev : Ev} (h : J ns ev) : I ns ev := by
  obtain ⟨k, p, a, b, m, w, e, h1, h2, h3, _, _⟩ := h
  exact ⟨k, p, _, _, m, w, e, h1, np, np, h2, h3⟩
theorem body1 {ns : List Int} {ev : Ev} {m : Nat} (hm : m < 7) (h : J ns ev) : ∃ ev', bindT (.one 5) (.int m) ev = some ev' ∧ (b_law_1 ev').All (FlNext (J ns)) := by
  obtain ⟨k, p, a, b, m0, w, rfl, h1, h2, h3, ha, hb⟩ := h
  refine ⟨_, rfl, ?_⟩
  unfold b_law_1
  simp [right_ok ha hb hm, right_ok hb ha hm, FlNext]
  exact ⟨k, p, a, b, _, w, rfl, h1, np, h3, ha, hb⟩
theorem body2 {ns : List Int} {ev : Ev} {w : D} (hw : w ∈ wrongs) (h : J ns ev) : ∃ ev', bindT (.one 6) w ev = some ev' ∧ (b_law_2 ev').All (FlNext (J ns)) := by
  obtain ⟨k, p, a, b, m0, w0, rfl, h1, h2, h3, ha, hb⟩ := h
  refine ⟨_, rfl, ?_⟩
  unfold b_law_2
  simp [refused_ok ha hb hw, FlNext]
  exact ⟨k, p, a, b, _, _, rfl, h1, h2, np, ha, hb⟩
/-- an end that is no count has a text in front; a count has a small number -/
def isCount (b : D) (m : Nat) : Bool := match (mIf (mB (mOp gEq (mOp gIx (mVar 0) (mC (.int 0))) (mC (.str w_count)))) (mOp gIx (mVar 0) (mC (.int 1))) (mC (.int 1))) [some (.dat b)] with
  | .ret (.ok (.dat (.int i))) => i == m
  | _ => false
theorem count_all : (ends.all fun b => (List.range 7).any fun m => isCount b m) = true := by decide +kernel
theorem count_of {b : D} (hb : b ∈ ends) : ∃ m : Nat, m < 7 ∧ (mIf (mB (mOp gEq (mOp gIx (mVar 0) (mC (.int 0))) (mC (.str w_count)))) (mOp gIx (mVar 0) (mC (.int 1))) (mC (.int 1))) [some (.dat b)] = M.ok (.dat (.int m)) := by
  have h := count_all
  simp only [List.all_eq_true, List.any_eq_true, List.mem_range] at h
  obtain ⟨m, hm, e⟩ := h b hb
  refine ⟨m, hm, ?_⟩
  unfold isCount at e
  split at e
  · rename_i i e2
    rw [e2, (by simpa using e : i = m)]
    rfl
  · cases e
theorem lrest {ns : List Int} {k m w : Option Sl} {a b : D} (hk : NP k) (h2 : NP m) (h3 : NP w) (ha : a ∈ ends) (hb : b ∈ ends) :
    ((sSeq (sFor [] (.one 5) (mIt (mLst (mCons (mUser 2 F__law_take (gSlot 2 (gDat (mC (.int 7)) (gNil')))) (mCons (mC (.int 0)) (mCons (mIf (mB (mOp gEq (mOp gIx (mVar 4) (mC (.int 0))) (mC (.str w_count)))) (mOp gIx (mVar 4) (mC (.int 1))) (mC (.int 1))) (mNil)))))) b_law_1)
    (sFor [] (.one 6) (mIt (mLst (mCons (mC .non) (mCons (mC (.str w_)) (mCons (mC (.str w_equal)) (mCons (mC (.int 0)) (mCons (mC (.bl true)) (mCons (mLst (mCons (mC (.str w_same)) (mNil))) (mCons (mTup (mCons (mC (.str w_same)) (mNil))) (mCons (mC (.str w_Same)) (mNil))))))))))) b_law_2))
    [some (.scr ns), k, some .pool, some (.dat a), some (.dat b), m, w]).All (FlNext (J ns)) := by
  obtain ⟨c, hc, ec⟩ := count_of hb
  have ec' : (mIf (mB (mOp gEq (mOp gIx (mVar 4) (mC (.int 0))) (mC (.str w_count)))) (mOp gIx (mVar 4) (mC (.int 1))) (mC (.int 1))) [some (.scr ns), k, some .pool, some (.dat a), some (.dat b), m, w] = M.ok (.dat (.int c)) := by
    rw [← ec]
    simp
  have t7 := fTake_eq (n := 7) (by decide) (by decide)
  have t7' : fTake [.pool, .dat (.int 7)] = _ := t7
  rw [sSeq_eq, Dr.all_bind]
  have e1 : (mCons (mC (.int 0)) (mCons (mIf (mB (mOp gEq (mOp gIx (mVar 4) (mC (.int 0))) (mC (.str w_count)))) (mOp gIx (mVar 4) (mC (.int 1))) (mC (.int 1))) (mNil))) [some (.scr ns), k, some .pool, some (.dat a), some (.dat b), m, w] = M.ok [.int 0, .int c] := by
    rw [mCons_eq, mD_eq, mC_eq, M.ok_bind, M.ok_bind, mCons_eq, mD_eq, ec']
    rfl
  have e2 : (mIt (mLst (mCons (mUser 2 F__law_take (gSlot 2 (gDat (mC (.int 7)) (gNil')))) (mCons (mC (.int 0)) (mCons (mIf (mB (mOp gEq (mOp gIx (mVar 4) (mC (.int 0))) (mC (.str w_count)))) (mOp gIx (mVar 4) (mC (.int 1))) (mC (.int 1))) (mNil)))))) [some (.scr ns), k, some .pool, some (.dat a), some (.dat b), m, w]
      = .take 7 fun r => M.ok [.int (r : Int), .int 0, .int c] := by
    rw [mIt_eq, mD_eq, mLst_eq, mCons_eq, e1]
    simp [t7', sz]
  rw [sFor_eq, frz_nil, e2, Dr.bind_take, Dr.all_take]
  refine ⟨by decide, by decide, fun r hr => ?_⟩
  simp only [M.ok_dbind, forK_ok]
  generalize hds : [D.int (r : Int), .int 0, .int c] = ds
  have h1 : (forL (.one 5) b_law_1 ds [some (.scr ns), k, some .pool, some (.dat a), some (.dat b), m, w]).All fun f => ∃ ev', f = .next ev' ∧ J ns ev' := by
    refine forL_all ⟨k, _, a, b, m, w, rfl, hk, h2, h3, ha, hb⟩ ?_
    intro d hd ev h
    rw [← hds] at hd
    simp only [List.mem_cons, List.not_mem_nil, or_false] at hd
    rcases hd with rfl | rfl | rfl
    · exact body1 hr h
    · exact body1 (m := 0) (by decide) h
    · exact body1 hc h
  refine Dr.All.imp ?_ h1
  intro f hf
  obtain ⟨ev', rfl, h⟩ := hf
  rw [onNext_next, sFor_eq, frz_nil]
  have e3 : (mIt (mLst (mCons (mC .non) (mCons (mC (.str w_)) (mCons (mC (.str w_equal)) (mCons (mC (.int 0)) (mCons (mC (.bl true)) (mCons (mLst (mCons (mC (.str w_same)) (mNil))) (mCons (mTup (mCons (mC (.str w_same)) (mNil))) (mCons (mC (.str w_Same)) (mNil))))))))))) ev' = M.ok wrongs := by
    simp [sz, wrongs]
  rw [e3]
  simp only [M.ok_dbind, forK_ok]
  generalize hws : wrongs = ws
  have h2 : (forL (.one 6) b_law_2 ws ev').All fun f => ∃ ev', f = .next ev' ∧ J ns ev' := by
    refine forL_all h ?_
    intro d hd ev h
    rw [← hws] at hd
    exact body2 hd h
  refine Dr.All.imp ?_ h2
  intro f hf
  obtain ⟨ev', rfl, h⟩ := hf
  exact h
theorem body3 {ns : List Int} {ev : Ev} {k : Nat} (hk : k < 30) (h : I ns ev) : ∃ ev', bindT (.one 1) (.int k) ev = some ev' ∧ (b_law_3 ev').All (FlNext (I ns)) := by
  obtain ⟨k0, p, a, b, m, w, rfl, h1, h2, h3, h4, h5⟩ := h
  refine ⟨_, rfl, ?_⟩
  have e0 : sPool 2 0 (mVar 1) [some (.scr ns), some (.dat (.int k)), p, a, b, m, w] = .ret (.next [some (.scr ns), some (.dat (.int k)), some .pool, a, b, m, w]) :=
    sPool_eq (i := 2) (j := 0) (k := k) (ns := ns) (noPool_of (by simpa using ⟨h2, h3, h4, h5⟩)) rfl (by simp) (by omega)
  unfold b_law_3
  rw [sSeq_eq]
  simp only [List.set_cons_succ, List.set_cons_zero]
  rw [e0, Dr.bind_ret, onNext_next, sSeq_eq, sPar_eq, Dr.all_bind, Dr.all_bind]
  simp only [lCons_eq, lNil_eq, mAsD_eq, mD_eq, mUser_eq, gSlot_eq, gNil_eq, List.getElem?_cons_succ, List.getElem?_cons_zero, slArg_pool, M.ok_bind, List.length_cons, List.length_nil, Nat.zero_add, if_true]
  rw [M.allBind, M.allBind, M.allBind]
  refine Dr.All.imp ?_ end_mem
  rintro o ⟨a', ha, rfl⟩
  simp only [okThen, M.all_ok, M.ok_bind, R.d_dat]
  rw [M.allBind, M.allBind, M.allBind, M.allBind]
  refine Dr.All.imp ?_ end_mem
  rintro o ⟨b', hb, rfl⟩
  simp only [okThen, M.all_ok, M.ok_bind, R.d_dat, par0_ok, setRs_cons, setRs_nil, R.sl_dat, List.set_cons_succ, List.set_cons_zero, Dr.all_ret, onNext_next]
  rw [sSeq_eq, sIf_eq, frz_nil, Dr.all_bind, Dr.all_bind]
  have t4 : fTake [.pool, .dat (.int 4)] = _ := fTake_eq (n := 4) (by decide) (by decide)
  simp only [mB_eq, mD_eq, mOp_eq, mUser_eq, gSlot_eq, gDat_eq, gNil_eq, mC_eq, M.ok_bind, R.d_dat, List.getElem?_cons_succ, List.getElem?_cons_zero, slArg_pool, List.length_cons, List.length_nil, Nat.zero_add, if_true, t4, M.take_bind, Dr.all_take]
  refine ⟨by decide, by decide, fun r hr => ?_⟩
  rw [gEq_int]
  simp only [mopt_some, M.ok_bind, asBl_bl, R.d_dat, M.all_ok]
  have fin : ∀ {ev : Ev} , J ns ev → I ns ev := J.i
  have go : ∀ {f : Fl}, FlNext (J ns) f → FlNext (I ns) f := by
    intro f hf
    cases f with
    | next ev => exact hf.i
    | cont ev => exact hf.i
    | brk ev => exact hf
    | ret r => exact hf
    | exc x ev => exact hf
  by_cases h0 : (r : Int) = 0
  · rw [decide_eq_true h0, ifK_t]
    simp only [sSet_eq, evS_eq, mVar_s, mVar_0, M.ok_dbind, Dr.bind_ret, setK_ok, R.sl_dat, List.set_cons_succ, List.set_cons_zero, Dr.all_ret, onNext_next]
    exact (lrest (k := some (.dat (.int k))) np h4 h5 ha ha).imp fun _ => go
  · rw [decide_eq_false h0, ifK_f]
    simp only [sNil_eq, Dr.all_ret, onNext_next]
    exact (lrest (k := some (.dat (.int k))) np h4 h5 ha hb).imp fun _ => go
theorem yes (ns : List Int) (hn : ns.length ≤ 63) : (F_law [.scr ns]).All isYes := by
  have e0 : F_law [.scr ns] = Dr.bind (m_law [some (.scr ns), none, none, none, none, none, none]) flRet := rfl
  rw [e0]
  unfold m_law
  have e1 : (mB (mOp gNe (mC g_RELATIONS) (mTup (mCons (mC (.str w_same)) (mCons (mC (.str w_opposite)) (mCons (mC (.str w_nonzero)) (mCons (mC (.str w_counts)) (mNil)))))))) [some (.scr ns), none, none, none, none, none, none] = M.ok false := by
    have : gNe g_RELATIONS (.tup [.str w_same, .str w_opposite, .str w_nonzero, .str w_counts]) = some (.dat (.bl false)) := by
      unfold gNe
      rw [if_pos (by decide +kernel), show (D.eqv g_RELATIONS (.tup [.str w_same, .str w_opposite, .str w_nonzero, .str w_counts])) = true by decide +kernel]
      rfl
    simp [sz, this]
  rw [sSeq_eq, sIf_eq, frz_nil, e1, M.ok_dbind, ifK_f, sNil_eq, Dr.bind_ret, onNext_next, sSeq_eq, sFor_eq, frz_nil, Dr.all_bind, Dr.all_bind]
  have e2 : ∃ n : Nat, n ≤ 30 ∧ (mRng (mCons (mCall gMax (mCons (mC (.int 1)) (mCons (mCall gMin (mCons (mC (.int 30)) (mCons (mLenS 0) (mNil)))) (mNil)))) (mNil))) [some (.scr ns), none, none, none, none, none, none] = M.ok (natsD n) := rng_cells (a := 1) (b := 30) (i := 0) (ev := [some (.scr ns), none, none, none, none, none, none]) rfl hn (by decide) (by decide)
  obtain ⟨n, hn, e2⟩ := e2
  rw [e2, M.ok_dbind, forK_ok]
  have h1 : (forL (.one 1) b_law_3 (natsD n) [some (.scr ns), none, none, none, none, none, none]).All fun f => ∃ ev', f = .next ev' ∧ I ns ev' := by
    refine forL_all ?_ ?_
    · exact ⟨none, none, none, none, none, none, rfl, np0, np0, np0, np0, np0⟩
    · intro d hd ev h
      simp only [natsD, List.mem_map, List.mem_range] at hd
      obtain ⟨k, hk, rfl⟩ := hd
      exact body3 (by omega) h
  refine Dr.All.imp ?_ h1
  rintro f ⟨ev', rfl, h⟩
  simp [isYes, flRet]
end LK

set_option Elab.async false
set_option linter.all false
set_option maxRecDepth 100000
set_option maxHeartbeats 4000000
set_option autoImplicit false
namespace LK
open PySem L2 PD
def cw (K : PySem.W.Frag) (C_NoRelation _u : Addr) : Cw := ⟨K, fun _ => 0, fun k => match k with | 0 => C_NoRelation | _ => 0, xfOf, none⟩
theorem all_mk {l : PySem.W.OpenLaw} {w : World} {K : PySem.W.Frag} {h : Heap} {mg : Str → Option Value} {fa C_AnswerError C_NoAgreement C_NoRelation f__law_pool f__law_take f__law_end f_look_at_relation f_related f__law_refused f__law_related f__law_relations f__law_right f_law : Addr} (X : K.In h) (G : h.Ns mainGlobals mg) (hfa : mg "law" = some (.ref fa))
    (aC_AnswerError : PySem.W.nsIn K mainGlobals "AnswerError" = some (some (.ref C_AnswerError)))
    (aC_NoAgreement : PySem.W.nsIn K mainGlobals "NoAgreement" = some (some (.ref C_NoAgreement)))
    (x_NoRelation : XAt K "NoRelation" "value" "NoRelation.__init__" (inClass (top 2) 0) C_NoRelation)
    (e_NoRelation_NoRelation : PySem.W.exmOne K (.ref C_NoRelation) (.ref C_NoRelation) = some true)
    (i_NoRelation_AnswerError : PySem.W.kitOne K (.ref C_NoRelation) (.ref C_AnswerError) = some true)
    (i_NoRelation_NoAgreement : PySem.W.kitOne K (.ref C_NoRelation) (.ref C_NoAgreement) = some false)
    (z_bool : PySem.W.nsIn K mainGlobals "bool" = some none)
    (z_int : PySem.W.nsIn K mainGlobals "int" = some none)
    (z_isinstance : PySem.W.nsIn K mainGlobals "isinstance" = some none)
    (z_len : PySem.W.nsIn K mainGlobals "len" = some none)
    (z_max : PySem.W.nsIn K mainGlobals "max" = some none)
    (z_min : PySem.W.nsIn K mainGlobals "min" = some none)
    (z_range : PySem.W.nsIn K mainGlobals "range" = some none)
    (z_str : PySem.W.nsIn K mainGlobals "str" = some none)
    (t_ANSWERS : GlobAt K "ANSWERS" g_ANSWERS)
    (t_RELATIONS : GlobAt K "RELATIONS" g_RELATIONS)
    (d__law_pool : FnAt K "_law_pool" s__law_pool f__law_pool)
    (d__law_take : FnAt K "_law_take" s__law_take f__law_take)
    (d__law_end : FnAt K "_law_end" s__law_end f__law_end)
    (d_look_at_relation : FnAt K "look_at_relation" s_look_at_relation f_look_at_relation)
    (d_related : FnAt K "related" s_related f_related)
    (d__law_refused : FnAt K "_law_refused" s__law_refused f__law_refused)
    (d__law_related : FnAt K "_law_related" s__law_related f__law_related)
    (d__law_relations : FnAt K "_law_relations" s__law_relations f__law_relations)
    (d__law_right : FnAt K "_law_right" s__law_right f__law_right)
    (d_law : FnAt K "law" s_law f_law)
    (yes : ∀ ns : List Int, ns.length ≤ 63 → (F_law [.scr ns]).All isYes) :
    ∃ fd : FuncData, (∀ (s : Shared) (v : Value), BindsTo s fd ⟨[v], []⟩ [("_law_script", v)]) ∧ ∀ base : Heap, K.In base → base.Ns mainGlobals mg → FnOk l.prog w K mg base (L2.CX l.prog w) 6 fa fd ["_law_script"] (spEnd K) := by
  have B : Bt mg := ⟨PySem.W.mg_none_of X G z_bool, PySem.W.mg_none_of X G z_int, PySem.W.mg_none_of X G z_isinstance, PySem.W.mg_none_of X G z_len, PySem.W.mg_none_of X G z_max, PySem.W.mg_none_of X G z_min, PySem.W.mg_none_of X G z_range, PySem.W.mg_none_of X G z_str⟩
  obtain ⟨fd__law_pool, F__law_pool1, m__law_pool1, b__law_pool⟩ := fnAt_ok (ps := ["_law_script", "_law_k"]) d__law_pool X G fun _ _ _ _ _ _ us hl => match us, hl with | [_, _], _ => rfl
  obtain ⟨fd__law_take, F__law_take1, m__law_take1, b__law_take⟩ := fnAt_ok (ps := ["_law_pool_here", "_law_many"]) d__law_take X G fun _ _ _ _ _ _ us hl => match us, hl with | [_, _], _ => rfl
  obtain ⟨fd__law_end, F__law_end1, m__law_end1, b__law_end⟩ := fnAt_ok (ps := ["_law_pool_here"]) d__law_end X G fun _ _ _ _ _ _ us hl => match us, hl with | [_], _ => rfl
  obtain ⟨fd_look_at_relation, F_look_at_relation1, m_look_at_relation1, b_look_at_relation⟩ := fnAt_ok (ps := ["value"]) d_look_at_relation X G fun _ _ _ _ _ _ us hl => match us, hl with | [_], _ => rfl
  obtain ⟨fd_related, F_related1, m_related1, b_related⟩ := fnAt_ok (ps := ["relation", "first", "second", "items"]) d_related X G fun _ _ _ _ _ _ us hl => match us, hl with | [_, _, _, _], _ => rfl
  obtain ⟨fd__law_refused, F__law_refused1, m__law_refused1, b__law_refused⟩ := fnAt_ok (ps := ["_law_value", "_law_one_here", "_law_other"]) d__law_refused X G fun _ _ _ _ _ _ us hl => match us, hl with | [_, _, _], _ => rfl
  obtain ⟨fd__law_related, F__law_related1, m__law_related1, b__law_related⟩ := fnAt_ok (ps := ["_law_kind", "_law_one_here", "_law_other", "_law_many"]) d__law_related X G fun _ _ _ _ _ _ us hl => match us, hl with | [_, _, _, _], _ => rfl
  obtain ⟨fd__law_relations, F__law_relations1, m__law_relations1, b__law_relations⟩ := fnAt_ok (ps := []) d__law_relations X G fun _ _ _ _ _ _ us hl => match us, hl with | [], _ => rfl
  obtain ⟨fd__law_right, F__law_right1, m__law_right1, b__law_right⟩ := fnAt_ok (ps := ["_law_one_here", "_law_other", "_law_many"]) d__law_right X G fun _ _ _ _ _ _ us hl => match us, hl with | [_, _, _], _ => rfl
  obtain ⟨a_law, fd_law, F_law1, kV, doc, pm, an, cd, ct, rfl⟩ := d_law
  have m_law1 : mg "law" = some (.ref f_law) := PySem.W.mg_of X G a_law
  have e := hfa.symm.trans m_law1
  cases e
  refine ⟨PySem.W.fnOf "law" "law" (defArgs s_law) (defBody s_law) (defScope s_law) .none kV doc pm an cd ct, fun s v => .of_eq rfl, fun base _ _ => ?_⟩
  have b_law : Binds K _ ["_law_script"] [] := F_law1.binds fun _ _ _ _ _ _ us hl => match us, hl with | [_], _ => rfl
  have G_ANSWERS : Glob (cw K C_NoRelation 0) mg "ANSWERS" g_ANSWERS := GlobAt.glob (c := (cw K C_NoRelation 0)) X G t_ANSWERS
  have G_RELATIONS : Glob (cw K C_NoRelation 0) mg "RELATIONS" g_RELATIONS := GlobAt.glob (c := (cw K C_NoRelation 0)) X G t_RELATIONS
  have mg_AnswerError : mg "AnswerError" = some (.ref C_AnswerError) := PySem.W.mg_of X G aC_AnswerError
  have mg_NoAgreement : mg "NoAgreement" = some (.ref C_NoAgreement) := PySem.W.mg_of X G aC_NoAgreement
  have mg_NoRelation : mg "NoRelation" = some (.ref C_NoRelation) := PySem.W.mg_of X G x_NoRelation.ns
  have X_NoRelation : Err l.prog w (cw K C_NoRelation 0) mg base "NoRelation" 0 := xAt_err (c := (cw K C_NoRelation 0)) (i := 0) x_NoRelation X G rfl ⟨rfl, rfl, rfl, by decide +kernel, rfl, by decide +kernel, by decide +kernel⟩ rfl rfl rfl fun _ _ _ _ _ _ us hl => match us, hl with | [_, _], _ => rfl
  have Hm_NoRelation : ∀ k b, mt_NoRelation k = some b → PySem.W.exmOne (cw K C_NoRelation 0).K (.ref ((cw K C_NoRelation 0).xc k)) (.ref C_NoRelation) = some b := by
    intro k b h
    match k, h with
    | 0, h =>
      have h : some true = some b := h
      cases h
      exact e_NoRelation_NoRelation
    | _ + 1, h => exact nomatch (show none = some b from h)
  have Hx_NoRelation_value : ∀ k, okx_NoRelation_value k = true → (cw K C_NoRelation 0).xf k = "value" ∧ XfC (cw K C_NoRelation 0).K ((cw K C_NoRelation 0).xc k) ∧ PySem.W.findIn (cw K C_NoRelation 0).K (.ref ((cw K C_NoRelation 0).xc k)) "value" = some none := by
    intro k h
    match k, h with
    | 0, h => exact ⟨rfl, x_NoRelation.xf, x_NoRelation.no⟩
    | _ + 1, h => exact nomatch (show false = true from h)
  have Hi_NoRelation_AnswerError : ∀ k b, is_NoRelation_AnswerError k = some b → PySem.W.kitOne (cw K C_NoRelation 0).K (.ref ((cw K C_NoRelation 0).xc k)) (.ref C_AnswerError) = some b ∧ ExcC (cw K C_NoRelation 0).K ((cw K C_NoRelation 0).xc k) := by
    intro k b h
    match k, h with
    | 0, h =>
      have h : some true = some b := h
      cases h
      exact ⟨i_NoRelation_AnswerError, x_NoRelation.ex⟩
    | _ + 1, h => exact nomatch (show none = some b from h)
  have Hi_NoRelation_NoAgreement : ∀ k b, is_NoRelation_NoAgreement k = some b → PySem.W.kitOne (cw K C_NoRelation 0).K (.ref ((cw K C_NoRelation 0).xc k)) (.ref C_NoAgreement) = some b ∧ ExcC (cw K C_NoRelation 0).K ((cw K C_NoRelation 0).xc k) := by
    intro k b h
    match k, h with
    | 0, h =>
      have h : some false = some b := h
      cases h
      exact ⟨i_NoRelation_NoAgreement, x_NoRelation.ex⟩
    | _ + 1, h => exact nomatch (show none = some b from h)
  have PoolOk : PoolD l.prog w (cw K C_NoRelation 0) mg base f__law_pool fd__law_pool := ok__law_pool (c := (cw K C_NoRelation 0)) B F__law_pool1 m__law_pool1 b__law_pool
  have D__law_take : Def l.prog w (cw K C_NoRelation 0) mg base "_law_take" ["_law_pool_here", "_law_many"] F__law_take 1 := ok__law_take (c := (cw K C_NoRelation 0)) B F__law_take1 m__law_take1 b__law_take
  have O__law_end := ok__law_end (P := l.prog) (w := w) (c := (cw K C_NoRelation 0)) (mg := mg) (base := base) B F__law_end1 D__law_take
  have D__law_end : Def l.prog w (cw K C_NoRelation 0) mg base "_law_end" ["_law_pool_here"] F__law_end 2 := ⟨f__law_end, fd__law_end, O__law_end, m__law_end1, F__law_end1.kp, b__law_end⟩
  have O_look_at_relation := ok_look_at_relation (P := l.prog) (w := w) (c := (cw K C_NoRelation 0)) (mg := mg) (base := base) B F_look_at_relation1 G_RELATIONS X_NoRelation
  have D_look_at_relation : Def l.prog w (cw K C_NoRelation 0) mg base "look_at_relation" ["value"] F_look_at_relation 3 := ⟨f_look_at_relation, fd_look_at_relation, O_look_at_relation, m_look_at_relation1, F_look_at_relation1.kp, b_look_at_relation⟩
  have O_related := ok_related (P := l.prog) (w := w) (c := (cw K C_NoRelation 0)) (mg := mg) (base := base) B F_related1 G_ANSWERS D_look_at_relation
  have D_related : Def l.prog w (cw K C_NoRelation 0) mg base "related" ["relation", "first", "second", "items"] F_related 4 := ⟨f_related, fd_related, O_related, m_related1, F_related1.kp, b_related⟩
  have O__law_refused := ok__law_refused (P := l.prog) (w := w) (c := (cw K C_NoRelation 0)) (mg := mg) (base := base) B F__law_refused1 D_related mg_AnswerError mg_NoAgreement mg_NoRelation Hm_NoRelation Hx_NoRelation_value Hi_NoRelation_AnswerError Hi_NoRelation_NoAgreement
  have D__law_refused : Def l.prog w (cw K C_NoRelation 0) mg base "_law_refused" ["_law_value", "_law_one_here", "_law_other"] F__law_refused 5 := ⟨f__law_refused, fd__law_refused, O__law_refused, m__law_refused1, F__law_refused1.kp, b__law_refused⟩
  have O__law_related := ok__law_related (P := l.prog) (w := w) (c := (cw K C_NoRelation 0)) (mg := mg) (base := base) B F__law_related1 
  have D__law_related : Def l.prog w (cw K C_NoRelation 0) mg base "_law_related" ["_law_kind", "_law_one_here", "_law_other", "_law_many"] F__law_related 2 := ⟨f__law_related, fd__law_related, O__law_related, m__law_related1, F__law_related1.kp, b__law_related⟩
  have O__law_relations := ok__law_relations (P := l.prog) (w := w) (c := (cw K C_NoRelation 0)) (mg := mg) (base := base) B F__law_relations1 
  have D__law_relations : Def l.prog w (cw K C_NoRelation 0) mg base "_law_relations" [] F__law_relations 2 := ⟨f__law_relations, fd__law_relations, O__law_relations, m__law_relations1, F__law_relations1.kp, b__law_relations⟩
  have K_related : DefK l.prog w (cw K C_NoRelation 0) mg base "related" ["relation", "first", "second", "items"] ["items", "second", "first", "relation"] [3, 2, 1, 0] F_related 4 := ⟨f_related, fd_related, O_related, m_related1, F_related1.kp, fun_kw F_related1 fun _ _ _ _ _ _ ws hw => match ws, hw with | [_, _, _, _], _ => rfl⟩
  have O__law_right := ok__law_right (P := l.prog) (w := w) (c := (cw K C_NoRelation 0)) (mg := mg) (base := base) B F__law_right1 D_related D__law_related D__law_relations K_related
  have D__law_right : Def l.prog w (cw K C_NoRelation 0) mg base "_law_right" ["_law_one_here", "_law_other", "_law_many"] F__law_right 5 := ⟨f__law_right, fd__law_right, O__law_right, m__law_right1, F__law_right1.kp, b__law_right⟩
  have O_law := ok_law (P := l.prog) (w := w) (c := (cw K C_NoRelation 0)) (mg := mg) (base := base) B F_law1 G_RELATIONS PoolOk D__law_take D__law_end D__law_refused D__law_right
  exact end_ok O_law yes
end LK

set_option Elab.async false
set_option linter.all false
set_option maxRecDepth 100000
set_option maxHeartbeats 4000000
set_option autoImplicit false
set_option pp.maxSteps 200
set_option pp.deepTerms false
open PySem PySem.W PyProof.Rows in
set_option maxRecDepth 100000 in
set_option maxHeartbeats 0 in
theorem PySem.Challenge.cw_answersby_k60_ends_related_holds : PySem.Challenge.rw_answersby_k60_ends_related.Holds := by
  w_on; o_law; k_head; (case hw => w_witness2)
  k_fill
  refine PD.walk (l := PySem.Challenge.rw_answersby_k60_ends_related) (k := 6) (x := "_law_script") rfl rfl ⟨rfl, by decide, by decide⟩ (fun w h Y => PySem.W.kIn_of Y) ?F
  case F =>
    intro w mg fa h KX G hmg
    refine' LK.all_mk KX G hmg ?aC_AnswerError ?aC_NoAgreement ?x_NoRelation ?e_NoRelation_NoRelation ?i_NoRelation_AnswerError ?i_NoRelation_NoAgreement ?z_bool ?z_int ?z_isinstance ?z_len ?z_max ?z_min ?z_range ?z_str ?t_ANSWERS ?t_RELATIONS ?d__law_pool ?d__law_take ?d__law_end ?d_look_at_relation ?d_related ?d__law_refused ?d__law_related ?d__law_relations ?d__law_right ?d_law LK.yes
    (case aC_AnswerError =>
      k_is)
    (case aC_NoAgreement =>
      k_is)
    (case x_NoRelation =>
      refine' PD.xAt_mk ?ns ?xL ?rv ?sa ?eC ?tC ?kC ?ga ?gg ?hd ?ha ?hn ?ht ?hm ?no ?a1 ?t1 ?l ?cI ?k
      (case ns => k_is)
      (case xL => k_is)
      (case rv => first | rfl | decide +kernel | k_is)
      (case sa => k_is)
      (case eC => k_is)
      (case tC => k_is)
      (case kC => k_is)
      (case ga => k_is)
      (case gg => k_is)
      (case hd => k_is)
      (case ha => k_is)
      (case hn => k_is)
      (case ht => k_is)
      (case hm => k_is)
      (case no => k_is)
      (case a1 => k_is)
      (case t1 => k_is)
      (case l => k_is)
      (case cI => k_is)
      (case k => k_is))
    (case e_NoRelation_NoRelation =>
      first | rfl | k_is)
    (case i_NoRelation_AnswerError =>
      first | rfl | k_is)
    (case i_NoRelation_NoAgreement =>
      first | rfl | k_is)
    (case z_bool =>
      k_is)
    (case z_int =>
      k_is)
    (case z_isinstance =>
      k_is)
    (case z_len =>
      k_is)
    (case z_max =>
      k_is)
    (case z_min =>
      k_is)
    (case z_range =>
      k_is)
    (case z_str =>
      k_is)
    (case t_ANSWERS =>
      refine' PD.globAt_mk 9 ?a ?r
      (case a => k_is)
      (case r => first | rfl | k_is))
    (case t_RELATIONS =>
      refine' PD.globAt_mk 9 ?a ?r
      (case a => k_is)
      (case r => first | rfl | k_is))
    (case d__law_pool =>
      refine' PD.fnAt_mk ?a ?l ?c ?k
      (case a => k_is)
      (case l => k_is)
      (case c => k_is)
      (case k => k_is))
    (case d__law_take =>
      refine' PD.fnAt_mk ?a ?l ?c ?k
      (case a => k_is)
      (case l => k_is)
      (case c => k_is)
      (case k => k_is))
    (case d__law_end =>
      refine' PD.fnAt_mk ?a ?l ?c ?k
      (case a => k_is)
      (case l => k_is)
      (case c => k_is)
      (case k => k_is))
    (case d_look_at_relation =>
      refine' PD.fnAt_mk ?a ?l ?c ?k
      (case a => k_is)
      (case l => k_is)
      (case c => k_is)
      (case k => k_is))
    (case d_related =>
      refine' PD.fnAt_mk ?a ?l ?c ?k
      (case a => k_is)
      (case l => k_is)
      (case c => k_is)
      (case k => k_is))
    (case d__law_refused =>
      refine' PD.fnAt_mk ?a ?l ?c ?k
      (case a => k_is)
      (case l => k_is)
      (case c => k_is)
      (case k => k_is))
    (case d__law_related =>
      refine' PD.fnAt_mk ?a ?l ?c ?k
      (case a => k_is)
      (case l => k_is)
      (case c => k_is)
      (case k => k_is))
    (case d__law_relations =>
      refine' PD.fnAt_mk ?a ?l ?c ?k
      (case a => k_is)
      (case l => k_is)
      (case c => k_is)
      (case k => k_is))
    (case d__law_right =>
      refine' PD.fnAt_mk ?a ?l ?c ?k
      (case a => k_is)
      (case l => k_is)
      (case c => k_is)
      (case k => k_is))
    (case d_law =>
      refine' PD.fnAt_mk ?a ?l ?c ?k
      (case a => k_is)
      (case l => k_is)
      (case c => k_is)
      (case k => k_is))

