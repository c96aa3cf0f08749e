import PyProof.Rows.All
import Wide.All
import OpenK.AllK
import Wide.FinOn
import KE.KStateDown
import HandS.ForMost
import HandS.Exc
import HandS.Wide
import HandS.WideBits
import HandS.IsInst
import HandS.Zip
import HandS.Rev
import HandS.Walk
import HandS.Style
import HandS.Defaults
import HandS.TupAny
import HandS.TupMul
import HandS.TryOnly
import HandS.EndBits
import HandS.Head0
import HandS.Head1
import HandS.Head2
import HandS.HeadEnd
import HandS.HeadHook1
import HandS.HeadHook2
import HandS.HeadHook4
import KE.GoesEnum
import KE.GoesEnumKw
import PyProof.ListMulRoad
import PyProof.FactsAll.tuple_2
import HandS.Deep
import HandS.Ends
import PyProof.ReprRoads
import HandS.RaiseMore
import PySem.Challenge.RW_echopanes_k25_rows_shown_or_not
set_option Elab.async false
set_option linter.all false
set_option maxRecDepth 100000
set_option maxHeartbeats 2000000
/-! Dn1: pure denotations over data, and what it means that a piece of the text has one. -/
namespace Dn
open PySem PySem.Spec PyProof.Rows L2
abbrev D := PyData
abbrev Rho := List (Option D)
abbrev Frag := PySem.W.Frag

/-- what a piece of code comes to: a value and the names behind it, an exception, or nothing that is told -/
inductive R (α : Type) where
  | ok (a : α) (r : Rho)
  | exc (c : String) (ds : List D) (r : Rho)
  | stuck
def R.bind {α β : Type} (x : R α) (f : α → Rho → R β) : R β :=
  match x with
  | .ok a r => f a r
  | .exc c ds r => .exc c ds r
  | .stuck => .stuck
@[simp] theorem R.bind_ok {α β : Type} (a : α) (r : Rho) (f : α → Rho → R β) : (R.ok a r).bind f = f a r := rfl
@[simp] theorem R.bind_exc {α β : Type} (c : String) (ds : List D) (r : Rho) (f : α → Rho → R β) : (R.exc c ds r : R α).bind f = .exc c ds r := rfl
@[simp] theorem R.bind_stuck {α β : Type} (f : α → Rho → R β) : (R.stuck : R α).bind f = .stuck := rfl
abbrev Den (α : Type) := Rho → R α
/-- how a statement ends -/
inductive Fl where
  | nx | ret (d : D)

/-! ### data at a value; lists are tracked -/
mutual
inductive Dq (K : Frag) (H : Hp) : V → D → Prop
  | non : Dq K H .non .none
  | bl (b : Bool) : Dq K H (.bl b) (.bool b)
  | int (i : Int) : Dq K H (.int i) (.int i)
  | str (x : Str) : Dq K H (.str x) (.str x)
  | lst {a : Addr} {xs : List V} {ds : List D} : H a = some (.lst xs) → DqAll K H xs ds → Dq K H (.ref a) (.list ds)
  | tup {a : Addr} {xs : List V} {ds : List D} : SqT K H a xs → DqAll K H xs ds → Dq K H (.ref a) (.tuple ds)
inductive DqAll (K : Frag) (H : Hp) : List V → List D → Prop
  | nil : DqAll K H [] []
  | cons {v : V} {vs : List V} {d : D} {ds : List D} : Dq K H v d → DqAll K H vs ds → DqAll K H (v :: vs) (d :: ds)
end
theorem sqT_same {K : Frag} {H H' : Hp} {a : Addr} {xs : List V} (e : Same H H') (h : SqT K H a xs) : SqT K H' a xs := by
  rcases h with (h | ⟨o, h⟩) | h
  · exact .inl (.inl (e _ _ h))
  · exact .inl (.inr ⟨o, e _ _ h⟩)
  · exact .inr h
section
variable {K : Frag} {G H H' : Hp}
mutual
theorem Dq.same (e : Same H H') : ∀ {v : V} {d : D}, Dq K H v d → Dq K H' v d
  | _, _, .non => .non
  | _, _, .bl b => .bl b
  | _, _, .int i => .int i
  | _, _, .str x => .str x
  | _, _, .lst h t => .lst (e _ _ h) (DqAll.same e t)
  | _, _, .tup h t => .tup (sqT_same e h) (DqAll.same e t)
theorem DqAll.same (e : Same H H') : ∀ {vs : List V} {ds : List D}, DqAll K H vs ds → DqAll K H' vs ds
  | _, _, .nil => .nil
  | _, _, .cons h t => .cons (Dq.same e h) (DqAll.same e t)
end
mutual
theorem Dq.dp : ∀ {v : V} {d : D}, Dq K H v d → Dp K H v d
  | _, _, .non => .non
  | _, _, .bl b => .bl b
  | _, _, .int i => .int i
  | _, _, .str x => .str x
  | _, _, .lst h t => .lst (.inl (.inl h)) (DqAll.dp t)
  | _, _, .tup h t => .tup h (DqAll.dp t)
theorem DqAll.dp : ∀ {vs : List V} {ds : List D}, DqAll K H vs ds → DpAll K H vs ds
  | _, _, .nil => .nil
  | _, _, .cons h t => .cons (Dq.dp h) (DqAll.dp t)
end
theorem DqAll.len : ∀ {vs : List V} {ds : List D}, DqAll K H vs ds → vs.length = ds.length
  | _, _, .nil => rfl
  | _, _, .cons _ t => congrArg (· + 1) (DqAll.len t)
theorem DqAll.app : ∀ {vs ws : List V} {ds es : List D}, DqAll K H vs ds → DqAll K H ws es → DqAll K H (vs ++ ws) (ds ++ es)
  | _, _, _, _, .nil, h => h
  | _, _, _, _, .cons h t, h' => .cons h (DqAll.app t h')
theorem DqAll.get : ∀ {vs : List V} {ds : List D} {i : Nat} {d : D}, DqAll K H vs ds → ds[i]? = some d → ∃ v, vs[i]? = some v ∧ Dq K H v d
  | _, _, _, _, .nil, e => by simp at e
  | _, _, 0, _, .cons h _, e => by simp at e; subst e; exact ⟨_, rfl, h⟩
  | _, _, i + 1, _, .cons _ t, e => by
    obtain ⟨v, h1, h2⟩ := DqAll.get (i := i) t (by simpa using e)
    exact ⟨v, by simpa using h1, h2⟩
theorem DqAll.getV : ∀ {vs : List V} {ds : List D} {i : Nat} {v : V}, DqAll K H vs ds → vs[i]? = some v → ∃ d, ds[i]? = some d ∧ Dq K H v d
  | _, _, _, _, .nil, e => by simp at e
  | _, _, 0, _, .cons h _, e => by simp at e; subst e; exact ⟨_, rfl, h⟩
  | _, _, i + 1, _, .cons _ t, e => by
    obtain ⟨v, h1, h2⟩ := DqAll.getV (i := i) t (by simpa using e)
    exact ⟨v, by simpa using h1, h2⟩
theorem DqAll.set : ∀ {vs : List V} {ds : List D} {i : Nat} {v : V} {d : D}, DqAll K H vs ds → Dq K H v d → DqAll K H (vs.set i v) (ds.set i d)
  | _, _, _, _, _, .nil, _ => by simp; exact .nil
  | _, _, 0, _, _, .cons _ t, h => .cons h t
  | _, _, i + 1, _, _, .cons h t, h' => .cons h (DqAll.set t h')
theorem DqAll.take : ∀ {vs : List V} {ds : List D} (n : Nat), DqAll K H vs ds → DqAll K H (vs.take n) (ds.take n)
  | _, _, 0, _ => .nil
  | _, _, _ + 1, .nil => .nil
  | _, _, n + 1, .cons h t => .cons h (DqAll.take n t)
theorem DqAll.drop : ∀ {vs : List V} {ds : List D} (n : Nat), DqAll K H vs ds → DqAll K H (vs.drop n) (ds.drop n)
  | _, _, 0, h => h
  | _, _, _ + 1, .nil => .nil
  | _, _, n + 1, .cons _ t => DqAll.drop n t
theorem DqAll.rep {v : V} {vs : List V} {ds : List D} (h : DqAll K H vs ds) : ∀ k : Nat, DqAll K H (List.replicate k vs).flatten (List.replicate k ds).flatten
  | 0 => .nil
  | k + 1 => by
    rw [List.replicate_succ, List.flatten_cons, List.replicate_succ, List.flatten_cons]
    exact DqAll.app h (DqAll.rep (v := v) h k)
theorem Dq.int_inv {v : V} {i : Int} (h : Dq K H v (.int i)) : v = .int i := by cases h; rfl
theorem Dq.bl_inv {v : V} {b : Bool} (h : Dq K H v (.bool b)) : v = .bl b := by cases h; rfl
theorem Dq.str_inv {v : V} {x : Str} (h : Dq K H v (.str x)) : v = .str x := by cases h; rfl
theorem Dq.non_inv {v : V} (h : Dq K H v .none) : v = .non := by cases h; rfl
theorem Dq.lst_inv {v : V} {ds : List D} (h : Dq K H v (.list ds)) : ∃ a xs, v = .ref a ∧ H a = some (.lst xs) ∧ DqAll K H xs ds := by
  cases h with
  | lst h t => exact ⟨_, _, rfl, h, t⟩
theorem Dq.tup_inv {v : V} {ds : List D} (h : Dq K H v (.tuple ds)) : ∃ a xs, v = .ref a ∧ SqT K H a xs ∧ DqAll K H xs ds := by
  cases h with
  | tup h t => exact ⟨_, _, rfl, h, t⟩
end

/-! ### modes: how a name holds its data -/
abbrev Fp := Addr → Prop
structure Md (K : Frag) where
  P : Hp → Hp → V → D → Fp → Prop
  mono : ∀ {G H G' H' : Hp} {v : V} {d : D} {S : Fp}, P G H v d S → Same G G' → (∀ p, S p → G' p = none) → (∀ p, S p → H' p = H p) → P G' H' v d S
  out : ∀ {G H : Hp} {v : V} {d : D} {S : Fp}, P G H v d S → ∀ p, S p → G p = none ∧ ∃ o, H p = some o
/-- data that never changes -/
def mP (K : Frag) : Md K where
  P G _ v d S := Dq K G v d ∧ ∀ p, ¬ S p
  mono h e _ _ := ⟨h.1.same e, h.2⟩
  out h p s := (h.2 p s).elim
/-- a list of one's own, of data that never changes -/
def mL (K : Frag) : Md K where
  P G H v d S := ∃ a vs ds, v = .ref a ∧ d = .list ds ∧ H a = some (.lst vs) ∧ G a = none ∧ DqAll K G vs ds ∧ ∀ p, S p ↔ p = a
  mono h e g k := by
    obtain ⟨a, vs, ds, e1, e2, h1, h2, h3, h4⟩ := h
    exact ⟨a, vs, ds, e1, e2, (k a ((h4 a).2 rfl)).trans h1, g a ((h4 a).2 rfl), h3.same e, h4⟩
  out h p s := by
    obtain ⟨a, vs, ds, e1, e2, h1, h2, h3, h4⟩ := h
    obtain rfl := (h4 p).1 s
    exact ⟨h2, _, h1⟩
/-- the script: a list that is locked -/
def mS (K : Frag) : Md K where
  P G _ v d S := (∃ a vs ds, v = .ref a ∧ d = .list ds ∧ SqL K G a vs ∧ DqAll K G vs ds) ∧ ∀ p, ¬ S p
  mono h e _ _ := by
    obtain ⟨⟨a, vs, ds, e1, e2, h1, h3⟩, h4⟩ := h
    exact ⟨⟨a, vs, ds, e1, e2, e.seq h1, h3.same e⟩, h4⟩
  out h p s := (h.2 p s).elim
/-- at that very value -/
def mAt {K : Frag} (v0 : V) (m : Md K) : Md K where
  P G H v d S := v = v0 ∧ m.P G H v d S
  mono h e g k := ⟨h.1, m.mono h.2 e g k⟩
  out h p s := m.out h.2 p s

/-! ### the names' state -/
def SlotOk {K : Frag} (m : Md K) (G H : Hp) (s : Option V) (r : Option D) (S : Fp) : Prop :=
  match r with
  | some d => ∃ v, s = some v ∧ m.P G H v d S
  | none => ∀ p, ¬ S p
structure EnvOk {K : Frag} (ms : List (Md K)) (G H : Hp) (σ : L2.St) (ρ : Rho) (F : Nat → Fp) : Prop where
  sub : Same G H
  ls : σ.length = ms.length
  lr : ρ.length = ms.length
  at_ : ∀ (i : Nat) (m : Md K) (s : Option V) (r : Option D), ms[i]? = some m → σ[i]? = some s → ρ[i]? = some r → SlotOk m G H s r (F i)
  dis : ∀ i j p, F i p → F j p → i = j
  off : ∀ i, ms.length ≤ i → ∀ p, ¬ F i p
def Un (F : Nat → Fp) : Fp := fun p => ∃ i, F i p
/-- how the heaps go on: G what never changes, U what may be changed -/
structure Ext (G H : Hp) (U : Fp) (G' H' : Hp) (U' : Fp) : Prop where
  same : Same G G'
  sub : Same G' H'
  gnew : ∀ p, (∃ o, G' p = some o) → (∃ o, G p = some o) ∨ H p = none ∨ U p
  keep : ∀ p o, H p = some o → ¬ U p → H' p = some o
  unew : ∀ p, U' p → U p ∨ H p = none
theorem Ext.refl {G H : Hp} {U : Fp} (h : Same G H) : Ext G H U G H U := ⟨Same.refl _, h, fun _ h => .inl h, fun _ _ h _ => h, fun _ h => .inl h⟩
theorem none_or {H : Hp} (p : Addr) : H p = none ∨ ∃ o, H p = some o := by
  cases h : H p with
  | none => exact .inl rfl
  | some o => exact .inr ⟨o, rfl⟩
theorem Ext.back {G H G' H' : Hp} {U U' : Fp} (a : Ext G H U G' H' U') {p : Addr} (h : H' p = none) : H p = none ∨ U p := by
  rcases none_or (H := H) p with q | ⟨o, q⟩
  · exact .inl q
  · by_cases u : U p
    · exact .inr u
    · rw [a.keep p o q u] at h; cases h
theorem Ext.trans {G H G1 H1 G2 H2 : Hp} {U U1 U2 : Fp} (a : Ext G H U G1 H1 U1) (b : Ext G1 H1 U1 G2 H2 U2) : Ext G H U G2 H2 U2 where
  same := a.same.trans b.same
  sub := b.sub
  gnew p h := by
    rcases b.gnew p h with h | h | h
    · exact a.gnew p h
    · rcases a.back h with q | q
      · exact .inr (.inl q)
      · exact .inr (.inr q)
    · rcases a.unew p h with q | q
      · exact .inr (.inr q)
      · exact .inr (.inl q)
  keep p o h u := b.keep p o (a.keep p o h u) fun q => by
    rcases a.unew p q with q | q
    · exact u q
    · rw [h] at q; cases q
  unew p h := by
    rcases b.unew p h with h | h
    · exact a.unew p h
    · rcases a.back h with q | q
      · exact .inr q
      · exact .inl q
theorem Ext.weak {G H G' H' : Hp} {U U' V' : Fp} (a : Ext G H U G' H' U') (h : ∀ p, V' p → U' p) : Ext G H U G' H' V' := ⟨a.same, a.sub, a.gnew, a.keep, fun p q => a.unew p (h p q)⟩
/-- what is held apart stays -/
theorem Ext.md {K : Frag} {m : Md K} {G H G' H' : Hp} {U U' : Fp} {v : V} {d : D} {S : Fp} (a : Ext G H U G' H' U') (h : m.P G H v d S) (dis : ∀ p, S p → ¬ U p) : m.P G' H' v d S := by
  refine m.mono h a.same (fun p s => ?_) fun p s => ?_
  · obtain ⟨h1, o, h2⟩ := m.out h p s
    rcases none_or (H := G') p with q | q
    · exact q
    · rcases a.gnew p q with ⟨o', q⟩ | q | q
      · rw [h1] at q; cases q
      · rw [h2] at q; cases q
      · exact (dis p s q).elim
  · obtain ⟨h1, o, h2⟩ := m.out h p s
    rw [h2]
    exact a.keep p o h2 (dis p s)
theorem Ext.apart {G H G' H' : Hp} {U U' S : Fp} (a : Ext G H U G' H' U') (dis : ∀ p, S p → ¬ U p) (out : ∀ p, S p → ∃ o, H p = some o) : ∀ p, S p → ¬ U' p := fun p s q => by
  rcases a.unew p q with q | q
  · exact dis p s q
  · obtain ⟨o, h⟩ := out p s
    rw [h] at q; cases q
/-- plain growth: new things alone -/
structure Grow (G H G' H' : Hp) : Prop where
  same : Same G G'
  sub : Same G' H'
  up : Same H H'
  gnew : ∀ p, (∃ o, G' p = some o) → (∃ o, G p = some o) ∨ H p = none
theorem Grow.refl {G H : Hp} (h : Same G H) : Grow G H G H := ⟨Same.refl _, h, Same.refl _, fun _ h => .inl h⟩
theorem Grow.trans {G H G1 H1 G2 H2 : Hp} (a : Grow G H G1 H1) (b : Grow G1 H1 G2 H2) : Grow G H G2 H2 :=
  ⟨a.same.trans b.same, b.sub, a.up.trans b.up, fun p h => (b.gnew p h).elim (fun h => a.gnew p h) fun h => .inr (a.up.free h)⟩
theorem Grow.ext {G H G' H' : Hp} (g : Grow G H G' H') (U : Fp) : Ext G H U G' H' U := ⟨g.same, g.sub, fun p h => (g.gnew p h).imp_right .inl, fun p o h _ => g.up p o h, fun _ h => .inl h⟩
theorem Grow.md {K : Frag} {m : Md K} {G H G' H' : Hp} {v : V} {d : D} {S : Fp} (g : Grow G H G' H') (h : m.P G H v d S) : m.P G' H' v d S := by
  refine m.mono h g.same (fun p s => ?_) fun p s => ?_
  · obtain ⟨h1, o, h2⟩ := m.out h p s
    rcases none_or (H := G') p with q | q
    · exact q
    · rcases g.gnew p q with ⟨o', q⟩ | q
      · rw [h1] at q; cases q
      · rw [h2] at q; cases q
  · obtain ⟨h1, o, h2⟩ := m.out h p s
    rw [h2]
    exact g.up p o h2
theorem SlotOk.grow {K : Frag} {m : Md K} {G H G' H' : Hp} {s : Option V} {r : Option D} {S : Fp} (g : Grow G H G' H') (h : SlotOk m G H s r S) : SlotOk m G' H' s r S := by
  cases r with
  | none => exact h
  | some d =>
    obtain ⟨v, e, h⟩ := h
    exact ⟨v, e, g.md h⟩
theorem EnvOk.grow {K : Frag} {ms : List (Md K)} {G H G' H' : Hp} {σ : L2.St} {ρ : Rho} {F : Nat → Fp} (e : EnvOk ms G H σ ρ F) (g : Grow G H G' H') : EnvOk ms G' H' σ ρ F :=
  ⟨g.sub, e.ls, e.lr, fun i m s r h1 h2 h3 => (e.at_ i m s r h1 h2 h3).grow g, e.dis, e.off⟩
/-- a tuple laid -/
theorem same_up {H : Hp} {p : Addr} {o : HO} (h : H p = none) : Same H (upd H p o) := fun b x e => by
  rw [upd_ne (ne_of_none e h)]
  exact e
theorem same_upd2 {G H : Hp} (h : Same G H) {p : Addr} {o : HO} : Same (upd G p o) (upd H p o) := fun b x e => by
  by_cases q : b = p
  · subst q; rw [upd_same] at e ⊢; exact e
  · rw [upd_ne q] at e ⊢; exact h b x e
theorem Grow.lay {G H : Hp} (h : Same G H) {p : Addr} {o : HO} (np : H p = none) : Grow G H (upd G p o) (upd H p o) where
  same := same_up (h.free np)
  sub := same_upd2 h
  up := same_up np
  gnew q hq := by
    by_cases e : q = p
    · subst e; exact .inr np
    · rw [upd_ne e] at hq; exact .inl hq
/-- a thing of one's own laid -/
theorem Grow.own {G H : Hp} (h : Same G H) {p : Addr} {o : HO} (np : H p = none) : Grow G H G (upd H p o) where
  same := Same.refl _
  sub := h.trans (same_up np)
  up := same_up np
  gnew q hq := .inl hq
/-- a list of one's own is frozen -/
theorem Grow.frz {G H : Hp} (h : Same G H) {p : Addr} {o : HO} (hp : H p = some o) : Same (upd G p o) H := fun b x e => by
  by_cases q : b = p
  · subst q; rw [upd_same] at e; cases e; exact hp
  · rw [upd_ne q] at e; exact h b x e
end Dn


set_option maxHeartbeats 2000000
/-! Dn2: the judgements; expressions. -/
namespace Dn
open PySem PySem.Spec PyProof.Rows L2
theorem lt_some.{u} {α : Type u} {xs : List α} {i : Nat} (h : (xs[i]?).isSome = true) : i < xs.length := by
  rcases Nat.lt_or_ge i xs.length with z | z
  · exact z
  · rw [List.getElem?_eq_none z] at h; cases h
theorem room_u {k : Nat} {A : Around} (r : Room k A) : A.units + 64 < cLine := r.units
/-- how an exception of a class, by its name, with its fields, lies in the heap -/
abbrev XI := String → List D → Value → Option Addr → Hp → Prop
structure Cfg (X : Cx) (E : XK) (k : Nat) : Prop where
  calm : X.calm = true
  nd : X.N.Nodup
  pass : Passes (L2.CX X.prog X.w) X E
  room : Room k X.A

/-- what is wanted behind an expression -/
def PostE (xi : XI) (E : XK) {K : Frag} (ms : List (Md K)) (m : Md K) (σ : L2.St) (G H : Hp) (F : Nat → Fp) (Q : VK) : R D → Prop
  | .ok d r => ∀ G' H' F' v T, Ext G H (Un F) G' H' (fun p => Un F' p ∨ T p) → EnvOk ms G' H' σ r F' → m.P G' H' v d T → (∀ p, T p → ¬ Un F' p) → Q v H'
  | .exc c ds r => ∀ G' H' F' cls od, Ext G H (Un F) G' H' (Un F') → EnvOk ms G' H' σ r F' → xi c ds cls od G' → E cls od H'
  | .stuck => False
structure JE (X : Cx) (xi : XI) (E : XK) (ms : List (Md X.K)) (e : Expr) (m : Md X.K) (f : Den D) : Prop where
  run : ∃ t : TE, PE X e t ∧ ∀ (G H : Hp) (σ : L2.St) (ρ : Rho) (F : Nat → Fp) (Q : VK), EnvOk ms G H σ ρ F → PostE xi E ms m σ G H F Q (f ρ) → t σ H Q

/-- an operand: data (none), or a list that a name holds as its own (its slot) -/
abbrev Ok := Option Nat
inductive Vw (K : Frag) (G H : Hp) : V → D → Prop
  | pure {v : V} {d : D} : Dq K G v d → Vw K G H v d
  | own {a : Addr} {vs : List V} {ds : List D} : H a = some (.lst vs) → DqAll K G vs ds → Vw K G H (.ref a) (.list ds)
def LView {K : Frag} (m : Md K) : Prop := ∀ G H v d S, m.P G H v d S → Vw K G H v d
theorem lv_L {K : Frag} : LView (mL K) := fun _ _ _ _ _ h => by
  obtain ⟨a, vs, ds, rfl, rfl, h1, _, h3, _⟩ := h
  exact .own h1 h3
theorem lv_At {K : Frag} {v0 : V} {m : Md K} (h : LView m) : LView (mAt v0 m) := fun _ _ _ _ _ q => h _ _ _ _ _ q.2
/-- an operand may be read -/
def Lv {K : Frag} (ms : List (Md K)) (k : Ok) : Prop := ∀ i, k = some i → ∃ m, ms[i]? = some m ∧ LView m
theorem lvN {K : Frag} {ms : List (Md K)} : Lv ms none := fun _ h => nomatch h
theorem lvS {K : Frag} {ms : List (Md K)} {i : Nat} {m : Md K} (l : LView m) (h : ms[i]? = some m) : Lv ms (some i) := fun j e => by cases e; exact ⟨m, h, l⟩
def LvA {K : Frag} (ms : List (Md K)) (ks : List Ok) : Prop := ∀ k ∈ ks, Lv ms k
theorem lvA0 {K : Frag} {ms : List (Md K)} : LvA ms [] := fun _ h => nomatch h
theorem lvA1 {K : Frag} {ms : List (Md K)} {k : Ok} {ks : List Ok} (h : Lv ms k) (t : LvA ms ks) : LvA ms (k :: ks) := fun x hx => by
  rcases List.mem_cons.mp hx with z | z
  · rw [z]; exact h
  · exact t x z
/-- how an operand's value stands -/
def Opd (K : Frag) (G : Hp) (σ : L2.St) (k : Ok) (v : V) (d : D) : Prop := match k with
  | none => Dq K G v d
  | some i => σ[i]? = some (some v)
theorem Opd.same {K : Frag} {G G' : Hp} {σ : L2.St} {k : Ok} {v : V} {d : D} (e : Same G G') (h : Opd K G σ k v d) : Opd K G' σ k v d := by
  cases k with
  | none => exact Dq.same e h
  | some i => exact h
def PostV (xi : XI) (E : XK) {K : Frag} (ms : List (Md K)) (k : Ok) (σ : L2.St) (G H : Hp) (F : Nat → Fp) (Q : VK) : R D → Prop
  | .ok d r => ∀ G' H' F' v, Ext G H (Un F) G' H' (Un F') → EnvOk ms G' H' σ r F' → Opd K G' σ k v d → Q v H'
  | .exc c ds r => ∀ G' H' F' cls od, Ext G H (Un F) G' H' (Un F') → EnvOk ms G' H' σ r F' → xi c ds cls od G' → E cls od H'
  | .stuck => False
structure JV (X : Cx) (xi : XI) (E : XK) (ms : List (Md X.K)) (e : Expr) (k : Ok) (f : Den D) : Prop where
  run : ∃ t : TE, PE X e t ∧ ∀ (G H : Hp) (σ : L2.St) (ρ : Rho) (F : Nat → Fp) (Q : VK), EnvOk ms G H σ ρ F → PostV xi E ms k σ G H F Q (f ρ) → t σ H Q
/-- the operand's data behind all operands -/
def res {α : Type} (k : Ok) (d : D) (ρ : Rho) (c : D → R α) : R α :=
  match k with
  | none => c d
  | some i => match ρ[i]? with
    | some (some d) => c d
    | _ => .stuck

section
variable {X : Cx} {xi : XI} {E : XK} {ms : List (Md X.K)} {pos : Pos}

theorem EnvOk.get {K : Frag} {ms : List (Md K)} {G H : Hp} {σ : L2.St} {ρ : Rho} {F : Nat → Fp} (e : EnvOk ms G H σ ρ F) {i : Nat} {m : Md K} {d : D} (hm : ms[i]? = some m) (hd : ρ[i]? = some (some d)) :
    ∃ v, σ[i]? = some (some v) ∧ m.P G H v d (F i) := by
  have hi : i < σ.length := by
    rw [e.ls]
    exact (List.getElem?_eq_some_iff.mp hm).1
  obtain ⟨v, e1, h⟩ := e.at_ i m σ[i] (some d) hm (List.getElem?_eq_getElem hi) hd
  exact ⟨v, by rw [List.getElem?_eq_getElem hi, e1], h⟩
theorem Un.ext {G H : Hp} {U : Fp} {T : Fp} (h : Same G H) (t : ∀ p, ¬ T p) : Ext G H U G H (fun p => U p ∨ T p) := (Ext.refl h).weak fun p q => q.elim id fun z => (t p z).elim

/-- a name -/
def dVar (i : Nat) : Den D := fun ρ => match ρ[i]? with
  | some (some d) => .ok d ρ
  | _ => .stuck
theorem je_var (i : Nat) {x : Str} (hN : X.N[i]? = some x := by rfl) (hm : ms[i]? = some (mP X.K) := by rfl) (hv : Vis X.env.scope x := by first | exact Or.inl rfl | exact Or.inr (Or.inl rfl) | exact Or.inr (Or.inr rfl))
    (hd : (x == ("__debug__" : Str)) = false := by decide) (hcd : (x == ("__classdict__" : Str)) = false := by decide) : JE X xi E ms (.Name x pos) (mP X.K) (dVar i) := by
  refine ⟨_, pe_var hN hv hd hcd, fun G H σ ρ F Q e q => ?_⟩
  unfold dVar at q
  split at q
  · rename_i d hd
    obtain ⟨v, h1, h2⟩ := e.get hm hd
    exact ⟨v, h1, q G H F v (fun _ => False) (Un.ext e.sub fun _ z => z) e ⟨h2.1, fun _ z => z⟩ fun _ z => z.elim⟩
  · exact q.elim
/-- a list of one's own, as an operand -/
def dSlot (i : Nat) : Den D := fun ρ => match ρ[i]? with
  | some (some _) => .ok .none ρ
  | _ => .stuck
theorem jv_slot (i : Nat) {m : Md X.K} {x : Str} (hm : ms[i]? = some m := by rfl) (hN : X.N[i]? = some x := by rfl) (hv : Vis X.env.scope x := by first | exact Or.inl rfl | exact Or.inr (Or.inl rfl) | exact Or.inr (Or.inr rfl))
    (hd : (x == ("__debug__" : Str)) = false := by decide) (hcd : (x == ("__classdict__" : Str)) = false := by decide) : JV X xi E ms (.Name x pos) (some i) (dSlot i) := by
  refine ⟨_, pe_var hN hv hd hcd, fun G H σ ρ F Q e q => ?_⟩
  unfold dSlot at q
  split at q
  · rename_i d hd
    obtain ⟨v, h1, h2⟩ := e.get hm hd
    exact ⟨v, h1, q G H F v (Ext.refl e.sub) e h1⟩
  · exact q.elim
theorem JE.jv {e : Expr} {f : Den D} (h : JE X xi E ms e (mP X.K) f) : JV X xi E ms e none f := by
  obtain ⟨t, p, h⟩ := h.run
  refine ⟨t, p, fun G H σ ρ F Q e q => h G H σ ρ F Q e ?_⟩
  cases hr : f ρ with
  | ok d r =>
    rw [hr] at q
    intro G' H' F' v T x e' hm _
    exact q G' H' F' v (x.weak fun _ z => .inl z) e' hm.1
  | exc c ds r => rw [hr] at q; exact q
  | stuck => rw [hr] at q; exact q
/-- a list of one's own is frozen as a value -/
theorem je_frz {e : Expr} {f : Den D} (h : JE X xi E ms e (mL X.K) f) : JE X xi E ms e (mP X.K) f := by
  obtain ⟨t, p, h⟩ := h.run
  refine ⟨t, p, fun G H σ ρ F Q e q => h G H σ ρ F Q e ?_⟩
  cases hr : f ρ with
  | exc c ds r => rw [hr] at q; exact q
  | stuck => rw [hr] at q; exact q
  | ok d r =>
    rw [hr] at q
    intro G' H' F' v T x e' hm dis
    obtain ⟨a, vs, ds, rfl, rfl, h1, h2, h3, h4⟩ := hm
    have hs : Same (upd G' a (.lst vs)) H' := Grow.frz e'.sub h1
    have hG : Same G' (upd G' a (.lst vs)) := same_up h2
    have ta : ¬ Un F' a := dis a ((h4 a).2 rfl)
    refine q (upd G' a (.lst vs)) H' F' (.ref a) (fun _ => False) ⟨x.same.trans hG, hs, fun p hp => ?_, x.keep, fun p hp => ?_⟩ ⟨hs, e'.ls, e'.lr, fun i m s r' a1 a2 a3 => ?_, e'.dis, e'.off⟩ ⟨.lst upd_same (h3.same hG), fun _ z => z⟩ fun _ z => z.elim
    · by_cases z : p = a
      · subst z
        rcases x.unew p (.inr ((h4 p).2 rfl)) with u | u
        · exact .inr (.inr u)
        · exact .inr (.inl u)
      · rw [upd_ne z] at hp
        exact x.gnew p hp
    · rcases hp with hp | hp
      · exact x.unew p (.inl hp)
      · exact hp.elim
    · have so := e'.at_ i m s r' a1 a2 a3
      cases r' with
      | none => exact so
      | some d' =>
        obtain ⟨v', e1, hv'⟩ := so
        refine ⟨v', e1, m.mono hv' hG (fun p hp => ?_) fun _ _ => rfl⟩
        have np : p ≠ a := fun z => ta ⟨i, by rw [← z]; exact hp⟩
        rw [upd_ne np]
        exact (m.out hv' p hp).1

/-! ### constants -/
def dC (d : D) : Den D := fun ρ => .ok d ρ
theorem je_const {e : Expr} {v : V} {d : D} (h : PE X e (tC v)) (hd : ∀ G, Dq X.K G v d) : JE X xi E ms e (mP X.K) (dC d) :=
  ⟨_, h, fun G H σ ρ F Q e q => q G H F v (fun _ => False) (Un.ext e.sub fun _ z => z) e ⟨hd G, fun _ z => z⟩ fun _ z => z.elim⟩
theorem je_int {i : Int} {j} : JE X xi E ms (.Constant (.int i) j pos) (mP X.K) (dC (.int i)) := je_const pe_int fun _ => .int i
theorem je_bl {b : Bool} {j} : JE X xi E ms (.Constant (.bool b) j pos) (mP X.K) (dC (.bool b)) := je_const pe_bl fun _ => .bl b
theorem je_non {j} : JE X xi E ms (.Constant .none j pos) (mP X.K) (dC .none) := je_const pe_non fun _ => .non
theorem je_str {x : Str} {j} : JE X xi E ms (.Constant (.str x) j pos) (mP X.K) (dC (.str x)) := je_const pe_str fun _ => .str x
/-- a constant of the module -/
structure GlD (X : Cx) (x : Str) (d : D) : Prop where
  ex : ∃ (u : Value) (v : V), X.mg x = some u ∧ RelV v u ∧ ∀ G, Dq X.K G v d
/-! ### argument lists -/
inductive DqA (K : Frag) (G : Hp) (σ : L2.St) : List Ok → List V → List D → Prop
  | nil : DqA K G σ [] [] []
  | val {v : V} {d : D} {ks : List Ok} {vs : List V} {ds : List D} : Dq K G v d → DqA K G σ ks vs ds → DqA K G σ (none :: ks) (v :: vs) (d :: ds)
  | slot {i : Nat} {v : V} {d : D} {ks : List Ok} {vs : List V} {ds : List D} : σ[i]? = some (some v) → DqA K G σ ks vs ds → DqA K G σ (some i :: ks) (v :: vs) (d :: ds)
theorem DqA.same {K : Frag} {G G' : Hp} {σ : L2.St} (e : Same G G') : ∀ {ks : List Ok} {vs : List V} {ds : List D}, DqA K G σ ks vs ds → DqA K G' σ ks vs ds
  | _, _, _, .nil => .nil
  | _, _, _, .val h t => .val (h.same e) (DqA.same e t)
  | _, _, _, .slot h t => .slot h (DqA.same e t)
def PostA (xi : XI) (E : XK) {K : Frag} (ms : List (Md K)) (ks : List Ok) (σ : L2.St) (G H : Hp) (F : Nat → Fp) (Q : List V → Hp → Prop) : R (List D) → Prop
  | .ok ds r => ∀ G' H' F' vs, Ext G H (Un F) G' H' (Un F') → EnvOk ms G' H' σ r F' → DqA K G' σ ks vs ds → Q vs H'
  | .exc c ds r => ∀ G' H' F' cls od, Ext G H (Un F) G' H' (Un F') → EnvOk ms G' H' σ r F' → xi c ds cls od G' → E cls od H'
  | .stuck => False
structure JA (X : Cx) (xi : XI) (E : XK) (ms : List (Md X.K)) (es : List Expr) (ks : List Ok) (f : Den (List D)) : Prop where
  run : ∃ t : TA, PA X es t ∧ ∀ (G H : Hp) (σ : L2.St) (ρ : Rho) (F : Nat → Fp) (Q : List V → Hp → Prop), EnvOk ms G H σ ρ F → PostA xi E ms ks σ G H F Q (f ρ) → t σ H Q
def dNil : Den (List D) := fun ρ => .ok [] ρ
def dCons (f : Den D) (g : Den (List D)) : Den (List D) := fun ρ => (f ρ).bind fun d r => (g r).bind fun ds r2 => .ok (d :: ds) r2
theorem ja_nil : JA X xi E ms [] [] dNil := ⟨_, pa_nil, fun G H σ ρ F Q e q => q G H F [] (Ext.refl e.sub) e .nil⟩
theorem PostA.ext {K : Frag} {ms : List (Md K)} {ks : List Ok} {σ : L2.St} {G H G1 H1 : Hp} {F F1 : Nat → Fp} {Q : List V → Hp → Prop} {x : R (List D)} (a : Ext G H (Un F) G1 H1 (Un F1)) (h : PostA xi E ms ks σ G H F Q x) : PostA xi E ms ks σ G1 H1 F1 Q x := by
  cases x with
  | ok ds r => exact fun G' H' F' vs b e => h G' H' F' vs (a.trans b) e
  | exc c ds r => exact fun G' H' F' cls od b e => h G' H' F' cls od (a.trans b) e
  | stuck => exact h
theorem PostE.ext {K : Frag} {ms : List (Md K)} {m : Md K} {σ : L2.St} {G H G1 H1 : Hp} {F F1 : Nat → Fp} {Q : VK} {x : R D} (a : Ext G H (Un F) G1 H1 (Un F1)) (h : PostE xi E ms m σ G H F Q x) : PostE xi E ms m σ G1 H1 F1 Q x := by
  cases x with
  | ok ds r => exact fun G' H' F' vs T b e => h G' H' F' vs T (a.trans b) e
  | exc c ds r => exact fun G' H' F' cls od b e => h G' H' F' cls od (a.trans b) e
  | stuck => exact h
theorem ja_cons {e : Expr} {es : List Expr} {k : Ok} {ks : List Ok} {f : Den D} {g : Den (List D)} (h1 : JV X xi E ms e k f) (h2 : JA X xi E ms es ks g)
    (hs : starEach (e :: es) X.env = (false, eval e X.env) :: starEach es X.env := by rfl) : JA X xi E ms (e :: es) (k :: ks) (dCons f g) := by
  obtain ⟨t1, p1, r1⟩ := h1.run
  obtain ⟨t2, p2, r2⟩ := h2.run
  refine ⟨_, pa_cons p1 p2 hs, fun G H σ ρ F Q e q => r1 G H σ ρ F _ e ?_⟩
  unfold dCons at q
  cases hf : f ρ with
  | stuck => rw [hf] at q; exact q
  | exc c ds r => rw [hf] at q; exact q
  | ok d r =>
    rw [hf] at q
    intro G1 H1 F1 v x1 e1 hv
    refine r2 G1 H1 σ r F1 _ e1 ?_
    replace q : PostA xi E ms (k :: ks) σ G H F Q ((g r).bind fun ds r2 => .ok (d :: ds) r2) := q
    cases hg : g r with
    | stuck => rw [hg] at q; exact q
    | exc c ds r => rw [hg] at q; exact fun G' H' F' cls od b e => q G' H' F' cls od (x1.trans b) e
    | ok ds r' =>
      rw [hg] at q
      intro G2 H2 F2 vs x2 e2 hvs
      refine q G2 H2 F2 (v :: vs) (x1.trans x2) e2 ?_
      cases k with
      | none => exact .val (Dq.same x2.same hv) hvs
      | some i => exact .slot hv hvs
/-- the arguments' data behind all of them -/
def resA {α : Type} : List Ok → List D → Rho → (List D → R α) → R α
  | k :: ks, d :: ds, ρ, c => res k d ρ fun d' => resA ks ds ρ fun ds' => c (d' :: ds')
  | _, _, _, c => c []
inductive VwAll (K : Frag) (G H : Hp) : List V → List D → Prop
  | nil : VwAll K G H [] []
  | cons {v : V} {vs : List V} {d : D} {ds : List D} : Vw K G H v d → VwAll K G H vs ds → VwAll K G H (v :: vs) (d :: ds)
theorem vw_res {α : Type} {K : Frag} {ms : List (Md K)} {G H : Hp} {σ : L2.St} {ρ : Rho} {F : Nat → Fp} {k : Ok} {v : V} {d : D} {c : D → R α} {P : R α → Prop} (e : EnvOk ms G H σ ρ F) (lv : Lv ms k)
    (hv : Opd K G σ k v d) (h : P (res k d ρ c)) (hs : ¬ P .stuck) : ∃ d', Vw K G H v d' ∧ P (c d') := by
  cases k with
  | none => exact ⟨d, .pure hv, h⟩
  | some i =>
    obtain ⟨m, hm, l⟩ := lv i rfl
    unfold res at h
    dsimp only at h
    split at h
    · rename_i d' hd
      obtain ⟨v', h1, h2⟩ := e.get hm hd
      have hv' : σ[i]? = some (some v) := hv
      rw [hv'] at h1
      cases h1
      exact ⟨d', l _ _ _ _ _ h2, h⟩
    · exact (hs h).elim
theorem vw_resA {α : Type} {K : Frag} {ms : List (Md K)} {G H : Hp} {σ : L2.St} {ρ : Rho} {F : Nat → Fp} (e : EnvOk ms G H σ ρ F) {P : R α → Prop} (hs : ¬ P .stuck) {ks : List Ok} {vs : List V} {ds : List D} (t : DqA K G σ ks vs ds) :
    ∀ {c : List D → R α}, LvA ms ks → P (resA ks ds ρ c) → ∃ ds', VwAll K G H vs ds' ∧ P (c ds') := by
  induction t with
  | nil => exact fun _ h => ⟨[], .nil, h⟩
  | @val v d ks vs ds hv t ih =>
    intro c lv h
    obtain ⟨ds', h1, h2⟩ := ih (c := fun ds' => c (d :: ds')) (fun k hk => lv k (List.mem_cons_of_mem _ hk)) h
    exact ⟨d :: ds', .cons (.pure hv) h1, h2⟩
  | @slot i v d ks vs ds hv t ih =>
    intro c lv h
    obtain ⟨d', h1, h2⟩ := vw_res (v := v) (k := some i) (d := d) (c := fun d' => resA ks ds ρ fun ds' => c (d' :: ds')) (P := P) e (lv (some i) List.mem_cons_self) hv h hs
    obtain ⟨ds', h3, h4⟩ := ih (c := fun ds' => c (d' :: ds')) (fun k hk => lv k (List.mem_cons_of_mem _ hk)) h2
    exact ⟨d' :: ds', .cons h1 h3, h4⟩
end
end Dn


set_option maxHeartbeats 2000000
/-! Dn3: operators, comparisons, tests, displays, built-ins, items. -/
namespace Dn
open PySem PySem.Spec PyProof.Rows L2
def lim : Nat := 1000000
theorem lim_size {n : Nat} (h : n ≤ lim) : n ≤ sizeLine := Nat.le_trans h (by decide)
/-! ### operators by values -/
def OpS (K : Frag) (r : R2) (g : D → D → Option D) : Prop := ∀ (G H : Hp) (v w : V) (d e x : D) (Q : VK), Same G H → Vw K G H v d → Vw K G H w e → g d e = some x →
  (∀ G' H' z, Grow G H G' H' → Dq K G' z x → Q z H') → r v w H Q
theorem Vw.int {K : Frag} {G H : Hp} {v : V} {i : Int} (h : Vw K G H v (.int i)) : v = .int i := by cases h with | pure h => exact h.int_inv
theorem Vw.bl {K : Frag} {G H : Hp} {v : V} {b : Bool} (h : Vw K G H v (.bool b)) : v = .bl b := by cases h with | pure h => exact h.bl_inv
theorem Vw.str {K : Frag} {G H : Hp} {v : V} {x : Str} (h : Vw K G H v (.str x)) : v = .str x := by cases h with | pure h => exact h.str_inv
theorem Vw.non {K : Frag} {G H : Hp} {v : V} (h : Vw K G H v .none) : v = .non := by cases h with | pure h => exact h.non_inv
theorem Vw.lst {K : Frag} {G H : Hp} {v : V} {ds : List D} (s : Same G H) (h : Vw K G H v (.list ds)) : ∃ a vs, v = .ref a ∧ H a = some (.lst vs) ∧ DqAll K G vs ds := by
  cases h with
  | pure h => obtain ⟨a, xs, e, h1, h2⟩ := h.lst_inv; exact ⟨a, xs, e, s _ _ h1, h2⟩
  | own h1 h2 => exact ⟨_, _, rfl, h1, h2⟩
theorem Vw.tup {K : Frag} {G H : Hp} {v : V} {ds : List D} (h : Vw K G H v (.tuple ds)) : ∃ a vs, v = .ref a ∧ SqT K G a vs ∧ DqAll K G vs ds := by cases h with | pure h => exact h.tup_inv
theorem Vw.dp {K : Frag} {G H : Hp} {v : V} {d : D} (s : Same G H) (h : Vw K G H v d) : Dp K H v d := by
  cases h with
  | pure h => exact (h.same s).dp
  | own h1 h2 => exact .lst (.inl (.inl h1)) (h2.same s).dp
theorem Vw.grow {K : Frag} {G H G' H' : Hp} {v : V} {d : D} (g : Grow G H G' H') (h : Vw K G H v d) : Vw K G' H' v d := by
  cases h with
  | pure h => exact .pure (h.same g.same)
  | own h1 h2 => exact .own (g.up _ _ h1) (h2.same g.same)
/-- an op's end with a plain value -/
theorem grow0 {K : Frag} {G H : Hp} {Q : VK} {z : V} {x : D} (s : Same G H) (hx : Dq K G z x) (q : ∀ G' H' z, Grow G H G' H' → Dq K G' z x → Q z H') : Q z H := q G H z (Grow.refl s) hx
theorem grow_lst {K : Frag} {G H : Hp} {Q : VK} {vs : List V} {ds : List D} {p : Addr} (s : Same G H) (np : H p = none) (hx : DqAll K G vs ds) (q : ∀ G' H' z, Grow G H G' H' → Dq K G' z (.list ds) → Q z H') : Q (.ref p) (upd H p (.lst vs)) :=
  q (upd G p (.lst vs)) _ (.ref p) (Grow.lay s np) (.lst upd_same (hx.same (same_up (s.free np))))
theorem grow_tup {K : Frag} {G H : Hp} {Q : VK} {vs : List V} {ds : List D} {p : Addr} (s : Same G H) (np : H p = none) (hx : DqAll K G vs ds) (q : ∀ G' H' z, Grow G H G' H' → Dq K G' z (.tuple ds) → Q z H') : Q (.ref p) (upd H p (.tup vs)) :=
  q (upd G p (.tup vs)) _ (.ref p) (Grow.lay s np) (.tup (.inl (.inl upd_same)) (hx.same (same_up (s.free np))))

def gAdd : D → D → Option D
  | .int i, .int j => some (.int (i + j))
  | .list xs, .list ys => if xs.length + ys.length ≤ lim then some (.list (xs ++ ys)) else none
  | .tuple xs, .tuple ys => if xs.length + ys.length ≤ lim then some (.tuple (xs ++ ys)) else none
  | .str x, .str y => if x.length + y.length ≤ lim then some (.str (x ++ y)) else none
  | _, _ => none
def rAddA (K : Frag) : R2 := fun x y H Q => rI0 (fun i j => .int (i + j)) x y H Q ∨ (rCat x y H Q ∨ (rCatA K x y H Q ∨ (∃ i j, x = .str i ∧ y = .str j ∧ i.length + j.length ≤ sizeLine ∧ Q (.str (i ++ j)) H)))
theorem op_addA {X : Cx} : OpR X (binaryOp .Add) (rAddA X.K) := op_add.or (op_cat.or (op_catA.or op_add_str))
theorem s_add {K : Frag} : OpS K (rAddA K) gAdd := fun G H v w d e x Q s hv hw hg q => by
  unfold gAdd at hg
  split at hg
  · cases hg; exact .inl ⟨_, _, hv.int, hw.int, grow0 s (.int _) q⟩
  · split at hg
    · cases hg
      obtain ⟨a, xs, rfl, h1, h2⟩ := hv.lst s
      obtain ⟨b, ys, rfl, h3, h4⟩ := hw.lst s
      rename_i hl
      exact .inr (.inl ⟨a, b, xs, ys, rfl, rfl, h1, h3, by rw [h2.len, h4.len]; exact lim_size hl, fun p np => grow_lst s np (h2.app h4) q⟩)
    · cases hg
  · split at hg
    · cases hg
      obtain ⟨a, xs, rfl, h1, h2⟩ := hv.tup
      obtain ⟨b, ys, rfl, h3, h4⟩ := hw.tup
      rename_i hl
      refine .inr (.inr (.inl ⟨a, b, xs, ys, rfl, rfl, sqT_same s h1, sqT_same s h3, by rw [h2.len, h4.len]; exact lim_size hl, fun e => ?_, fun _ e => ?_, fun _ _ p np => grow_tup s np (h2.app h4) q⟩))
      · subst e; cases h2; exact grow0 s (.tup h3 h4) q
      · subst e; cases h4; rw [List.append_nil] at q; exact grow0 s (.tup h1 h2) q
    · cases hg
  · split at hg
    · cases hg
      rename_i hl
      exact .inr (.inr (.inr ⟨_, _, hv.str, hw.str, lim_size hl, grow0 s (.str _) q⟩))
    · cases hg
  · cases hg
def gSub : D → D → Option D
  | .int i, .int j => some (.int (i - j))
  | _, _ => none
theorem s_sub {K : Frag} : OpS K (rI0 fun i j => .int (i - j)) gSub := fun G H v w d e x Q s hv hw hg q => by
  unfold gSub at hg
  split at hg
  · cases hg; exact ⟨_, _, hv.int, hw.int, grow0 s (.int _) q⟩
  · cases hg
/-- the size of an int, in bits -/
def bits (i : Int) : Nat := i.natAbs.log2
def gMul : D → D → Option D
  | .int i, .int j => if bits i + bits j < 100000000 then some (.int (i * j)) else none
  | .list xs, .int k => if xs.length * k.toNat ≤ lim ∧ k.natAbs ≤ lim then some (.list (List.replicate k.toNat xs).flatten) else none
  | _, _ => none
theorem mulx_of {i j : Int} (h : bits i + bits j < 100000000) : CMulX i j := by
  have e : ∀ x : Int, x.natAbs < 2 ^ (bits x + 1) := fun x => Nat.lt_log2_self
  exact mulx_ok (e i) (e j) (by omega)
def rMulA : R2 := fun x y H Q => rI CMulX (fun i j => .int (i * j)) x y H Q ∨ rRep x y H Q
theorem op_mulA {X : Cx} : OpR X (binaryOp .Mult) rMulA := op_mulX.or op_rep
theorem s_mul {K : Frag} : OpS K rMulA gMul := fun G H v w d e x Q s hv hw hg q => by
  unfold gMul at hg
  split at hg
  · split at hg
    · cases hg; rename_i hb; exact .inl ⟨_, _, hv.int, hw.int, mulx_of hb, grow0 s (.int _) q⟩
    · cases hg
  · split at hg
    · cases hg
      rename_i xs k hl
      obtain ⟨a, vs, rfl, h1, h2⟩ := hv.lst s
      have l1 : k.natAbs ≤ 1000000 := hl.2
      refine .inr ⟨a, k, vs, rfl, hw.int, h1, by omega, by omega, by rw [h2.len]; exact lim_size hl.1, ?_⟩
      exact fun p np => grow_lst s np (h2.rep (v := .non) _) q
    · cases hg
  · cases hg
/-- // by any divisor that is not too great -/
def CDivX (_ j : Int) : Prop := j ≠ 0 ∧ j.natAbs.log2 < 9000
theorem op_fdivX {X : Cx} : OpR X (binaryOp .FloorDiv) (rI CDivX fun i j => .int (i.fdiv j)) := opI fun _ _ _ _ _ _ _ hc q => floordiv_int hc.1 q (.inl (PyProof.noPylong_of_log2 hc.2))
def gDiv : D → D → Option D
  | .int i, .int j => if j ≠ 0 ∧ bits j < 9000 then some (.int (i.fdiv j)) else none
  | _, _ => none
theorem s_div {K : Frag} : OpS K (rI CDivX fun i j => .int (i.fdiv j)) gDiv := fun G H v w d e x Q s hv hw hg q => by
  unfold gDiv at hg
  split at hg
  · split at hg
    · cases hg; rename_i hb; exact ⟨_, _, hv.int, hw.int, hb, grow0 s (.int _) q⟩
    · cases hg
  · cases hg
def gMod : D → D → Option D
  | .int i, .int j => if j ≠ 0 then some (.int (i.fmod j)) else none
  | _, _ => none
theorem s_mod {K : Frag} : OpS K (rI (fun _ j => j ≠ 0) fun i j => .int (i.fmod j)) gMod := fun G H v w d e x Q s hv hw hg q => by
  unfold gMod at hg
  split at hg
  · split at hg
    · cases hg; rename_i hb; exact ⟨_, _, hv.int, hw.int, hb, grow0 s (.int _) q⟩
    · cases hg
  · cases hg
def gPow : D → D → Option D
  | .int i, .int j => if 0 ≤ j ∧ j ≤ 1000 ∧ i.natAbs < 1000000 then some (.int (i ^ j.toNat)) else none
  | _, _ => none
theorem s_pow {K : Frag} : OpS K (rI CPow fun i j => .int (i ^ j.toNat)) gPow := fun G H v w d e x Q s hv hw hg q => by
  unfold gPow at hg
  split at hg
  · split at hg
    · cases hg; rename_i hb; exact ⟨_, _, hv.int, hw.int, ⟨hb.1, by omega, by omega⟩, grow0 s (.int _) q⟩
    · cases hg
  · cases hg

/-! ### the rule for two operands -/
def lift (x : Option D) (ρ : Rho) : R D := match x with
  | some d => .ok d ρ
  | none => .stuck
def dOp (k1 k2 : Ok) (g : D → D → Option D) (f1 f2 : Den D) : Den D := fun ρ => (f1 ρ).bind fun d1 r1 => (f2 r1).bind fun d2 r2 => res k1 d1 r2 fun x => res k2 d2 r2 fun y => lift (g x y) r2
section
variable {X : Cx} {xi : XI} {E : XK} {ms : List (Md X.K)} {pos : Pos} {a b : Expr} {k1 k2 : Ok} {f1 f2 : Den D} {g : D → D → Option D} {r : R2}
theorem run2 (s : OpS X.K r g) (h1 : JV X xi E ms a k1 f1) (h2 : JV X xi E ms b k2 f2) (l1 : Lv ms k1) (l2 : Lv ms k2) : ∃ t1 t2 : TE, PE X a t1 ∧ PE X b t2 ∧
    ∀ (G H : Hp) (σ : L2.St) (ρ : Rho) (F : Nat → Fp) (Q : VK), EnvOk ms G H σ ρ F → PostE xi E ms (mP X.K) σ G H F Q (dOp k1 k2 g f1 f2 ρ) → tOp r t1 t2 σ H Q := by
  obtain ⟨t1, p1, r1⟩ := h1.run
  obtain ⟨t2, p2, r2⟩ := h2.run
  refine ⟨t1, t2, p1, p2, fun G H σ ρ F Q e q => r1 G H σ ρ F _ e ?_⟩
  unfold dOp at q
  cases hf : f1 ρ with
  | stuck => rw [hf] at q; exact q
  | exc c ds r => rw [hf] at q; exact q
  | ok d1 r1 =>
    rw [hf] at q
    intro G1 H1 F1 v x1 e1 hv
    refine r2 G1 H1 σ r1 F1 _ e1 ?_
    replace q : PostE xi E ms (mP X.K) σ G H F Q ((f2 r1).bind fun d2 r2 => res k1 d1 r2 fun x => res k2 d2 r2 fun y => lift (g x y) r2) := q
    cases hg : f2 r1 with
    | stuck => rw [hg] at q; exact q
    | exc c ds r => rw [hg] at q; exact fun G' H' F' cls od b e => q G' H' F' cls od (x1.trans b) e
    | ok d2 r2 =>
      rw [hg] at q
      intro G2 H2 F2 w x2 e2 hw
      replace q : PostE xi E ms (mP X.K) σ G H F Q (res k1 d1 r2 fun x => res k2 d2 r2 fun y => lift (g x y) r2) := q
      obtain ⟨d1', v1, q⟩ := vw_res (v := v) (d := d1) (P := PostE xi E ms (mP X.K) σ G H F Q) e2 l1 (hv.same x2.same) q (fun z => z)
      obtain ⟨d2', v2, q⟩ := vw_res (v := w) (d := d2) (P := PostE xi E ms (mP X.K) σ G H F Q) e2 l2 hw q (fun z => z)
      cases hx : g d1' d2' with
      | none => rw [hx] at q; exact q.elim
      | some x =>
        rw [hx] at q
        refine s G2 H2 v w d1' d2' x Q e2.sub v1 v2 hx fun G' H' z gr hz => ?_
        exact q G' H' F2 z (fun _ => False) (((x1.trans x2).trans (gr.ext _)).weak fun p h => h.elim id fun z => z.elim) (e2.grow gr) ⟨hz, fun _ z => z⟩ fun _ z => z.elim
theorem je_op {op : Operator} (ho : OpR X (binaryOp op) r) (s : OpS X.K r g) (h1 : JV X xi E ms a k1 f1) (h2 : JV X xi E ms b k2 f2)
    (l1 : Lv ms k1 := by first | exact lvN | exact lvS lv_L rfl | exact lvS (lv_At lv_L) rfl) (l2 : Lv ms k2 := by first | exact lvN | exact lvS lv_L rfl | exact lvS (lv_At lv_L) rfl) : JE X xi E ms (.BinOp a op b pos) (mP X.K) (dOp k1 k2 g f1 f2) := by
  obtain ⟨t1, t2, p1, p2, h⟩ := run2 s h1 h2 l1 l2
  exact ⟨_, pe_op ho p1 p2, h⟩
end

/-! ### comparisons: values and tests -/
/-- an expression that may be asked as a test -/
structure JB (X : Cx) (xi : XI) (E : XK) (ms : List (Md X.K)) (e : Expr) (f : Den D) : Prop where
  run : ∃ t : TE, PE X e t ∧ PT X e (tB t) ∧ ∀ (G H : Hp) (σ : L2.St) (ρ : Rho) (F : Nat → Fp) (Q : VK), EnvOk ms G H σ ρ F → PostE xi E ms (mP X.K) σ G H F Q (f ρ) → t σ H Q
def PostT (xi : XI) (E : XK) {K : Frag} (ms : List (Md K)) (σ : L2.St) (G H : Hp) (F : Nat → Fp) (Q : Bool → Hp → Prop) : R Bool → Prop
  | .ok b r => ∀ G' H' F', Ext G H (Un F) G' H' (Un F') → EnvOk ms G' H' σ r F' → Q b H'
  | .exc c ds r => ∀ G' H' F' cls od, Ext G H (Un F) G' H' (Un F') → EnvOk ms G' H' σ r F' → xi c ds cls od G' → E cls od H'
  | .stuck => False
structure JT (X : Cx) (xi : XI) (E : XK) (ms : List (Md X.K)) (e : Expr) (f : Den Bool) : Prop where
  run : ∃ t : TT, PT X e t ∧ ∀ (G H : Hp) (σ : L2.St) (ρ : Rho) (F : Nat → Fp) (Q : Bool → Hp → Prop), EnvOk ms G H σ ρ F → PostT xi E ms σ G H F Q (f ρ) → t σ H Q
def dTest (f : Den D) : Den Bool := fun ρ => (f ρ).bind fun d r => match d with
  | .bool b => .ok b r
  | _ => .stuck
section
variable {X : Cx} {xi : XI} {E : XK} {ms : List (Md X.K)} {pos : Pos} {a b e : Expr} {k1 k2 : Ok} {f f1 f2 : Den D} {g : D → D → Option D} {r : R2}
theorem JB.je (h : JB X xi E ms e f) : JE X xi E ms e (mP X.K) f := let ⟨t, p, _, h⟩ := h.run; ⟨t, p, h⟩
theorem JB.jt (h : JB X xi E ms e f) : JT X xi E ms e (dTest f) := by
  obtain ⟨t, _, p, h⟩ := h.run
  refine ⟨_, p, fun G H σ ρ F Q e q => h G H σ ρ F _ e ?_⟩
  unfold dTest at q
  cases hf : f ρ with
  | stuck => rw [hf] at q; exact q
  | exc c ds r => rw [hf] at q; exact q
  | ok d r =>
    rw [hf] at q
    intro G' H' F' v T x e' hv _
    cases d with
    | bool b => exact ⟨b, hv.1.bl_inv, q G' H' F' (x.weak fun _ z => .inl z) e'⟩
    | _ => exact q.elim
theorem jb_cmp {op : CmpOp} (ho : OpR X (compareOp op) r) (s : OpS X.K r g) (h1 : JV X xi E ms a k1 f1) (h2 : JV X xi E ms b k2 f2) (hm : behindInMarks op b = false := by first | exact nomark _ | rfl)
    (l1 : Lv ms k1 := by first | exact lvN | exact lvS lv_L rfl | exact lvS (lv_At lv_L) rfl) (l2 : Lv ms k2 := by first | exact lvN | exact lvS lv_L rfl | exact lvS (lv_At lv_L) rfl) : JB X xi E ms (.Compare a [op] [b] pos) (dOp k1 k2 g f1 f2) := by
  obtain ⟨t1, t2, p1, p2, h⟩ := run2 s h1 h2 l1 l2
  exact ⟨_, pe_cmpR ho p1 p2 hm, pt_cmpR ho p1 p2 hm, h⟩
theorem JE.jb (h : JE X xi E ms e (mP X.K) f) (he : ∀ whole, isTrue e X.env whole = (do let v ← whole; standAt e.pos; holding [v] (truthy v)) := by intro _; rfl) : JB X xi E ms e f := by
  obtain ⟨t, p, h⟩ := h.run
  exact ⟨t, p, pt_val p he, h⟩
def gCmp (p : Int → Int → Bool) : D → D → Option D
  | .int i, .int j => some (.bool (p i j))
  | _, _ => none
theorem s_cmp {K : Frag} {p : Int → Int → Bool} : OpS K (rI0 fun i j => .bl (p i j)) (gCmp p) := fun G H v w d e x Q s hv hw hg q => by
  unfold gCmp at hg
  split at hg
  · cases hg; exact ⟨_, _, hv.int, hw.int, grow0 s (.bl _) q⟩
  · cases hg
abbrev gLt := gCmp fun i j => decide (i < j)
abbrev gLe := gCmp fun i j => decide (i ≤ j)
abbrev gGt := gCmp fun i j => decide (j < i)
abbrev gGe := gCmp fun i j => decide (j ≤ i)
def gEq : D → D → Option D := fun d e => if SeqAt.shaped d && SeqAt.shaped e then some (.bool (PyData.eqv d e)) else none
def gNe : D → D → Option D := fun d e => if SeqAt.shaped d && SeqAt.shaped e then some (.bool (!PyData.eqv d e)) else none
theorem s_eq {K : Frag} : OpS K (rEqD K) gEq := fun G H v w d e x Q s hv hw hg q => by
  unfold gEq at hg
  split at hg
  · cases hg
    rename_i h
    rw [Bool.and_eq_true] at h
    exact ⟨d, e, hv.dp s, hw.dp s, h.1, h.2, grow0 s (.bl _) q⟩
  · cases hg
theorem s_ne {K : Frag} : OpS K (rNeD K) gNe := fun G H v w d e x Q s hv hw hg q => by
  unfold gNe at hg
  split at hg
  · cases hg
    rename_i h
    rw [Bool.and_eq_true] at h
    exact ⟨d, e, hv.dp s, hw.dp s, h.1, h.2, grow0 s (.bl _) q⟩
  · cases hg
/-- is None, is True -/
def isNonD : D → Bool
  | .none => true
  | _ => false
def gIs : D → D → Option D
  | d, .none => some (.bool (isNonD d))
  | .bool p, .bool q => some (.bool (decide (p = q)))
  | _, _ => none
def rIsA : R2 := fun x y H Q => (y = .non ∧ Q (.bl (decide (x = .non))) H) ∨ rIsB x y H Q
theorem op_isA : OpR X (compareOp .Is) rIsA := op_isN.or op_isBl
theorem Vw.isNon {K : Frag} {G H : Hp} {v : V} {d : D} (h : Vw K G H v d) : decide (v = .non) = isNonD d := by
  cases h with
  | own _ _ => rfl
  | pure h => cases h <;> rfl
theorem s_is {K : Frag} : OpS K rIsA gIs := fun G H v w d e x Q s hv hw hg q => by
  unfold gIs at hg
  split at hg
  · cases hg
    exact .inl ⟨hw.non, by rw [hv.isNon]; exact grow0 s (.bl _) q⟩
  · cases hg; exact .inr ⟨_, _, hv.bl, hw.bl, grow0 s (.bl _) q⟩
  · cases hg
end

/-! ### and, or, not, if-else -/
section
variable {X : Cx} {xi : XI} {E : XK} {ms : List (Md X.K)} {pos : Pos} {a b c e : Expr} {rest : List Expr} {f g : Den D} {h h' : Den Bool} {m : Md X.K}
theorem PostT.ext {K : Frag} {ms : List (Md K)} {σ : L2.St} {G H G1 H1 : Hp} {F F1 : Nat → Fp} {Q : Bool → Hp → Prop} {x : R Bool} (a : Ext G H (Un F) G1 H1 (Un F1)) (h : PostT xi E ms σ G H F Q x) : PostT xi E ms σ G1 H1 F1 Q x := by
  cases x with
  | ok ds r => exact fun G' H' F' b e => h G' H' F' (a.trans b) e
  | exc c ds r => exact fun G' H' F' cls od b e => h G' H' F' cls od (a.trans b) e
  | stuck => exact h
def dNotT (h : Den Bool) : Den Bool := fun ρ => (h ρ).bind fun b r => .ok (!b) r
theorem jt_not (j : JT X xi E ms a h) : JT X xi E ms (.UnaryOp .Not a pos) (dNotT h) := by
  obtain ⟨t, p, j⟩ := j.run
  refine ⟨_, pt_not p, fun G H σ ρ F Q e q => j G H σ ρ F _ e ?_⟩
  unfold dNotT at q
  cases hf : h ρ with
  | stuck => rw [hf] at q; exact q
  | exc c ds r => rw [hf] at q; exact q
  | ok d r => rw [hf] at q; exact q
def dAndT (h h' : Den Bool) : Den Bool := fun ρ => (h ρ).bind fun b r => if b = true then h' r else .ok false r
def dOrT (h h' : Den Bool) : Den Bool := fun ρ => (h ρ).bind fun b r => if b = true then .ok true r else h' r
/-- .. whatever its whole is -/
structure JW (X : Cx) (xi : XI) (E : XK) (ms : List (Md X.K)) (e : Expr) (f : Den Bool) : Prop where
  run : ∃ t : TT, PW X e t ∧ ∀ (G H : Hp) (σ : L2.St) (ρ : Rho) (F : Nat → Fp) (Q : Bool → Hp → Prop), EnvOk ms G H σ ρ F → PostT xi E ms σ G H F Q (f ρ) → t σ H Q
theorem JW.jt (j : JW X xi E ms e h) : JT X xi E ms e h := let ⟨t, p, j⟩ := j.run; ⟨t, p.pt, j⟩
theorem jw_and1 (j : JT X xi E ms a h) : JW X xi E ms (.BoolOp .And [a] pos) h := let ⟨t, p, j⟩ := j.run; ⟨t, pw_and1 p, j⟩
theorem jw_or1 (j : JT X xi E ms a h) : JW X xi E ms (.BoolOp .Or [a] pos) h := let ⟨t, p, j⟩ := j.run; ⟨t, pw_or1 p, j⟩
theorem jw_and (j1 : JT X xi E ms a h) (j2 : JW X xi E ms (.BoolOp .And (b :: rest) pos) h') : JW X xi E ms (.BoolOp .And (a :: b :: rest) pos) (dAndT h h') := by
  obtain ⟨t, p, j⟩ := j1.run
  obtain ⟨t', p', j'⟩ := j2.run
  refine ⟨_, pw_and p p', fun G H σ ρ F Q e q => j G H σ ρ F _ e ?_⟩
  unfold dAndT at q
  cases hf : h ρ with
  | stuck => rw [hf] at q; exact q
  | exc c ds r => rw [hf] at q; exact q
  | ok d r =>
    rw [hf] at q
    intro G' H' F' x e'
    replace q : PostT xi E ms σ G H F Q (if d = true then h' r else .ok false r) := q
    cases d with
    | true => rw [if_pos rfl] at q ⊢; exact j' G' H' σ r F' Q e' (q.ext x)
    | false => rw [if_neg (by decide)] at q ⊢; exact q G' H' F' x e'
theorem jw_or (j1 : JT X xi E ms a h) (j2 : JW X xi E ms (.BoolOp .Or (b :: rest) pos) h') : JW X xi E ms (.BoolOp .Or (a :: b :: rest) pos) (dOrT h h') := by
  obtain ⟨t, p, j⟩ := j1.run
  obtain ⟨t', p', j'⟩ := j2.run
  refine ⟨_, pw_or p p', fun G H σ ρ F Q e q => j G H σ ρ F _ e ?_⟩
  unfold dOrT at q
  cases hf : h ρ with
  | stuck => rw [hf] at q; exact q
  | exc c ds r => rw [hf] at q; exact q
  | ok d r =>
    rw [hf] at q
    intro G' H' F' x e'
    replace q : PostT xi E ms σ G H F Q (if d = true then .ok true r else h' r) := q
    cases d with
    | true => rw [if_pos rfl] at q ⊢; exact q G' H' F' x e'
    | false => rw [if_neg (by decide)] at q ⊢; exact j' G' H' σ r F' Q e' (q.ext x)
/-- as values (bools) -/
def dAnd (f g : Den D) : Den D := fun ρ => (f ρ).bind fun d r => match d with
  | .bool true => g r
  | .bool false => .ok (.bool false) r
  | _ => .stuck
def dOr (f g : Den D) : Den D := fun ρ => (f ρ).bind fun d r => match d with
  | .bool true => .ok (.bool true) r
  | .bool false => g r
  | _ => .stuck
def dNot (f : Den D) : Den D := fun ρ => (f ρ).bind fun d r => match d with
  | .bool b => .ok (.bool (!b)) r
  | _ => .stuck
theorem je_one {op} (j : JE X xi E ms a m f) : JE X xi E ms (.BoolOp op [a] pos) m f := let ⟨t, p, j⟩ := j.run; ⟨t, pe_one p, j⟩
theorem je_and (j1 : JE X xi E ms a (mP X.K) f) (j2 : JE X xi E ms (.BoolOp .And (b :: rest) pos) (mP X.K) g) : JE X xi E ms (.BoolOp .And (a :: b :: rest) pos) (mP X.K) (dAnd f g) := by
  obtain ⟨t, p, j⟩ := j1.run
  obtain ⟨t', p', j'⟩ := j2.run
  refine ⟨_, pe_and p p', fun G H σ ρ F Q e q => j G H σ ρ F _ e ?_⟩
  unfold dAnd at q
  cases hf : f ρ with
  | stuck => rw [hf] at q; exact q
  | exc c ds r => rw [hf] at q; exact q
  | ok d r =>
    rw [hf] at q
    intro G' H' F' v T x e' hv dis
    have x := x.weak (V' := Un F') fun _ z => .inl z
    cases d with
    | bool k =>
      refine ⟨k, hv.1.bl_inv, ?_⟩
      cases k with
      | true => rw [if_pos rfl]; exact j' G' H' σ r F' Q e' (PostE.ext x q)
      | false => rw [if_neg (by decide)]; exact q G' H' F' (.bl false) (fun _ => False) (x.weak fun _ z => z.elim id fun z => z.elim) e' ⟨.bl _, fun _ z => z⟩ fun _ z => z.elim
    | _ => exact q.elim
theorem je_not (j1 : JE X xi E ms a (mP X.K) f) : JE X xi E ms (.UnaryOp .Not a pos) (mP X.K) (dNot f) := by
  obtain ⟨t, p, j⟩ := j1.run
  refine ⟨_, pe_not p, fun G H σ ρ F Q e q => j G H σ ρ F _ e ?_⟩
  unfold dNot at q
  cases hf : f ρ with
  | stuck => rw [hf] at q; exact q
  | exc c ds r => rw [hf] at q; exact q
  | ok d r =>
    rw [hf] at q
    intro G' H' F' v T x e' hv dis
    cases d with
    | bool k => exact ⟨k, hv.1.bl_inv, q G' H' F' (.bl !k) (fun _ => False) (x.weak fun _ z => z.elim .inl fun z => z.elim) e' ⟨.bl _, fun _ z => z⟩ fun _ z => z.elim⟩
    | _ => exact q.elim
def dIf (h : Den Bool) (f g : Den D) : Den D := fun ρ => (h ρ).bind fun b r => if b = true then f r else g r
theorem je_if (j1 : JT X xi E ms c h) (j2 : JE X xi E ms a m f) (j3 : JE X xi E ms b m g) : JE X xi E ms (.IfExp c a b pos) m (dIf h f g) := by
  obtain ⟨t, p, j⟩ := j1.run
  obtain ⟨t', p', j'⟩ := j2.run
  obtain ⟨t3, p3, j3⟩ := j3.run
  refine ⟨_, pe_ifExp p p' p3, fun G H σ ρ F Q e q => j G H σ ρ F _ e ?_⟩
  unfold dIf at q
  cases hf : h ρ with
  | stuck => rw [hf] at q; exact q
  | exc c ds r => rw [hf] at q; exact q
  | ok d r =>
    rw [hf] at q
    intro G' H' F' x e'
    replace q : PostE xi E ms m σ G H F Q (if d = true then f r else g r) := q
    cases d with
    | true => rw [if_pos rfl] at q ⊢; exact j' G' H' σ r F' Q e' (PostE.ext x q)
    | false => rw [if_neg (by decide)] at q ⊢; exact j3 G' H' σ r F' Q e' (PostE.ext x q)
/-- - a -/
def dNeg (f : Den D) : Den D := fun ρ => (f ρ).bind fun d r => match d with
  | .int i => .ok (.int (-i)) r
  | _ => .stuck
theorem je_neg (j1 : JE X xi E ms a (mP X.K) f) : JE X xi E ms (.UnaryOp .USub a pos) (mP X.K) (dNeg f) := by
  obtain ⟨t, p, j⟩ := j1.run
  refine ⟨_, pe_un un_neg p, fun G H σ ρ F Q e q => j G H σ ρ F _ e ?_⟩
  unfold dNeg at q
  cases hf : f ρ with
  | stuck => rw [hf] at q; exact q
  | exc c ds r => rw [hf] at q; exact q
  | ok d r =>
    rw [hf] at q
    intro G' H' F' v T x e' hv dis
    cases d with
    | int k => exact ⟨k, hv.1.int_inv, q G' H' F' _ (fun _ => False) (x.weak fun _ z => z.elim .inl fun z => z.elim) e' ⟨.int _, fun _ z => z⟩ fun _ z => z.elim⟩
    | _ => exact q.elim
end
end Dn


set_option maxHeartbeats 2000000
/-! Dn4: displays, built-in calls, items, slices, isinstance. -/
namespace Dn
open PySem PySem.Spec PyProof.Rows L2

theorem dqA_all {K : Frag} {G : Hp} {σ : L2.St} : ∀ {ks : List Ok} {vs : List V} {ds : List D}, ks.all (·.isNone) = true → DqA K G σ ks vs ds → DqAll K G vs ds ∧ ks.length = ds.length
  | _, _, _, _, .nil => ⟨.nil, rfl⟩
  | _, _, _, h, .val q t => by
    obtain ⟨h1, h2⟩ := dqA_all (by simpa using h) t
    exact ⟨.cons q h1, by simp [h2]⟩
  | _, _, _, h, .slot q t => by simp at h
section
variable {X : Cx} {xi : XI} {E : XK} {ms : List (Md X.K)} {pos : Pos} {es : List Expr} {ks : List Ok} {f : Den (List D)}
def dTup (f : Den (List D)) : Den D := fun ρ => (f ρ).bind fun ds r => .ok (.tuple ds) r
def dLst (f : Den (List D)) : Den D := fun ρ => (f ρ).bind fun ds r => .ok (.list ds) r
theorem je_tup {k} (h : JA X xi E ms es ks f) (hn : ks.all (·.isNone) = true := by rfl) (hl : ks.length ≤ 10000 := by decide) : JE X xi E ms (.Tuple es k pos) (mP X.K) (dTup f) := by
  obtain ⟨t, p, h⟩ := h.run
  refine ⟨_, pe_tup p, fun G H σ ρ F Q e q => h G H σ ρ F _ e ?_⟩
  unfold dTup at q
  cases hf : f ρ with
  | stuck => rw [hf] at q; exact q
  | exc c ds r => rw [hf] at q; exact q
  | ok ds r =>
    rw [hf] at q
    intro G' H' F' vs x e' hv
    obtain ⟨ha, hc⟩ := dqA_all hn hv
    refine ⟨by rw [ha.len, ← hc]; exact Nat.le_trans hl (by decide), fun p np => ?_⟩
    refine grow_tup (Q := Q) e'.sub np ha fun G2 H2 z gr hz => q G2 H2 F' z (fun _ => False) ((x.trans (gr.ext _)).weak fun _ z => z.elim id fun z => z.elim) (e'.grow gr) ⟨hz, fun _ z => z⟩ fun _ z => z.elim
/-- a list just laid is one's own -/
theorem own_lst {K : Frag} {ms : List (Md K)} {σ : L2.St} {G H G' H' : Hp} {F F' : Nat → Fp} {Q : VK} {ds : List D} {r : Rho} {vs : List V} {p : Addr} (q : PostE xi E ms (mL K) σ G H F Q (.ok (.list ds) r)) (x : Ext G H (Un F) G' H' (Un F')) (e' : EnvOk ms G' H' σ r F')
    (np : H' p = none) (ha : DqAll K G' vs ds) : Q (.ref p) (upd H' p (.lst vs)) := by
  have gr : Grow G' H' G' (upd H' p (.lst vs)) := Grow.own e'.sub np
  refine q G' (upd H' p (.lst vs)) F' (.ref p) (fun z => z = p) ?_ (e'.grow gr) ⟨p, vs, ds, rfl, rfl, upd_same, e'.sub.free np, ha, fun z => Iff.rfl⟩ (fun z hz u => ?_)
  · have x2 := x.trans (gr.ext (Un F'))
    refine ⟨x2.same, x2.sub, x2.gnew, x2.keep, fun z hz => ?_⟩
    rcases hz with hz | hz
    · exact x2.unew z hz
    · have hz : z = p := hz
      rw [hz]
      exact (x.back np).symm
  · have hz : z = p := hz
    rw [hz] at u
    obtain ⟨i, hi⟩ := u
    have hl : i < ms.length := by
      rcases Nat.lt_or_ge i ms.length with z | z
      · exact z
      · exact (e'.off i z p hi).elim
    have so := e'.at_ i ms[i] (σ[i]'(by rw [e'.ls]; exact hl)) (r[i]'(by rw [e'.lr]; exact hl)) (List.getElem?_eq_getElem hl) (List.getElem?_eq_getElem _) (List.getElem?_eq_getElem _)
    unfold SlotOk at so
    split at so
    · obtain ⟨v, _, hv⟩ := so
      obtain ⟨o, ho⟩ := (ms[i].out hv p hi).2
      rw [np] at ho
      cases ho
    · exact so p hi
theorem je_lstL (h : JA X xi E ms es ks f) (hn : ks.all (·.isNone) = true := by rfl) (hl : ks.length ≤ 10000 := by decide) : JE X xi E ms (.List es pos) (mL X.K) (dLst f) := by
  obtain ⟨t, p, h⟩ := h.run
  refine ⟨_, pe_lst p, fun G H σ ρ F Q e q => h G H σ ρ F _ e ?_⟩
  unfold dLst at q
  cases hf : f ρ with
  | stuck => rw [hf] at q; exact q
  | exc c ds r => rw [hf] at q; exact q
  | ok ds r =>
    rw [hf] at q
    intro G' H' F' vs x e' hv
    obtain ⟨ha, hc⟩ := dqA_all hn hv
    exact ⟨by rw [ha.len, ← hc]; exact Nat.le_trans hl (by decide), fun p np => own_lst q x e' np ha⟩
end

/-! ### calls of built-ins, by values -/
def CallS (K : Frag) (r : List V → Hp → VK → Prop) (g : List D → Option D) : Prop := ∀ (G H : Hp) (vs : List V) (ds : List D) (x : D) (Q : VK), Same G H → VwAll K G H vs ds → g ds = some x →
  (∀ G' H' z, Grow G H G' H' → Dq K G' z x → Q z H') → r vs H Q
/-- a new list is told, as one's own -/
def CallL (K : Frag) (r : List V → Hp → VK → Prop) (g : List D → Option (List D)) : Prop := ∀ (G H : Hp) (vs : List V) (ds xs : List D) (Q : VK), Same G H → VwAll K G H vs ds → g ds = some xs →
  (∀ p ws, H p = none → DqAll K G ws xs → Q (.ref p) (upd H p (.lst ws))) → r vs H Q
theorem CallL.s {K : Frag} {r : List V → Hp → VK → Prop} {g : List D → Option (List D)} (h : CallL K r g) : CallS K r (fun ds => (g ds).map .list) := fun G H vs ds x Q s hv hg q => by
  have hg : Option.map PyData.list (g ds) = some x := hg
  cases hx : g ds with
  | none => rw [hx] at hg; cases hg
  | some xs =>
    rw [hx] at hg
    cases hg
    exact h G H vs ds xs Q s hv hx fun p ws np ha => grow_lst s np ha q
def dCallB (ks : List Ok) (g : List D → Option D) (f : Den (List D)) : Den D := fun ρ => (f ρ).bind fun ds r => resA ks ds r fun ds' => lift (g ds') r
section
variable {X : Cx} {xi : XI} {E : XK} {ms : List (Md X.K)} {pos : Pos} {es : List Expr} {ks : List Ok} {f : Den (List D)} {r : List V → Hp → VK → Prop} {g : List D → Option D} {gl : List D → Option (List D)}
theorem runB (s : CallS X.K r g) (h : JA X xi E ms es ks f) (l : LvA ms ks) : ∃ t : TA, PA X es t ∧ ∀ (G H : Hp) (σ : L2.St) (ρ : Rho) (F : Nat → Fp) (Q : VK), EnvOk ms G H σ ρ F → PostE xi E ms (mP X.K) σ G H F Q (dCallB ks g f ρ) → tCB r t σ H Q := by
  obtain ⟨t, p, h⟩ := h.run
  refine ⟨t, p, fun G H σ ρ F Q e q => h G H σ ρ F _ e ?_⟩
  unfold dCallB at q
  cases hf : f ρ with
  | stuck => rw [hf] at q; exact q
  | exc c ds r => rw [hf] at q; exact q
  | ok ds r' =>
    rw [hf] at q
    intro G' H' F' vs x e' hv
    replace q : PostE xi E ms (mP X.K) σ G H F Q (resA ks ds r' fun ds' => lift (g ds') r') := q
    obtain ⟨ds', hw, q⟩ := vw_resA (P := PostE xi E ms (mP X.K) σ G H F Q) e' (fun z => z) hv l q
    cases hx : g ds' with
    | none => rw [hx] at q; exact q.elim
    | some x' =>
      rw [hx] at q
      exact s G' H' vs ds' x' Q e'.sub hw hx fun G2 H2 z gr hz => q G2 H2 F' z (fun _ => False) ((x.trans (gr.ext _)).weak fun _ z => z.elim id fun z => z.elim) (e'.grow gr) ⟨hz, fun _ z => z⟩ fun _ z => z.elim
theorem runL (s : CallL X.K r gl) (h : JA X xi E ms es ks f) (l : LvA ms ks) : ∃ t : TA, PA X es t ∧ ∀ (G H : Hp) (σ : L2.St) (ρ : Rho) (F : Nat → Fp) (Q : VK), EnvOk ms G H σ ρ F → PostE xi E ms (mL X.K) σ G H F Q (dCallB ks (fun ds => (gl ds).map .list) f ρ) → tCB r t σ H Q := by
  obtain ⟨t, p, h⟩ := h.run
  refine ⟨t, p, fun G H σ ρ F Q e q => h G H σ ρ F _ e ?_⟩
  unfold dCallB at q
  cases hf : f ρ with
  | stuck => rw [hf] at q; exact q
  | exc c ds r => rw [hf] at q; exact q
  | ok ds r' =>
    rw [hf] at q
    intro G' H' F' vs x e' hv
    replace q : PostE xi E ms (mL X.K) σ G H F Q (resA ks ds r' fun ds' => lift ((gl ds').map .list) r') := q
    obtain ⟨ds', hw, q⟩ := vw_resA (P := PostE xi E ms (mL X.K) σ G H F Q) e' (fun z => z) hv l q
    cases hx : gl ds' with
    | none => rw [hx] at q; exact q.elim
    | some xs =>
      rw [hx] at q
      exact s G' H' vs ds' xs Q e'.sub hw hx fun p ws np ha => own_lst q x e' np ha
variable {e : Expr} {x : Str} {p : Pos} {id T : String}
theorem je_callB (hc : CallR X (.builtin id) r) (s : CallS X.K r g) (hm : X.mg x = none) (hv : bootBuiltins x = some (.builtin id)) (ha : JA X xi E ms (e :: es) ks f)
    (l : LvA ms ks := by repeat (first | exact lvA0 | refine lvA1 lvN ?_ | refine lvA1 (lvS lv_L rfl) ?_ | refine lvA1 (lvS (lv_At lv_L) rfl) ?_)) (hg : Gl X x := by rfl) (hn : x ≠ "__name__" := by decide) (hdb : (x == ("__debug__" : Str)) = false := by decide)
    (he : starEach (e :: es) X.env = (false, eval e X.env) :: starEach es X.env := by rfl) (hpl : (backTo pos (starEach es X.env)).any (·.1) = false := by rfl) : JE X xi E ms (.Call (.Name x p) (e :: es) [] pos) (mP X.K) (dCallB ks g f) := by
  obtain ⟨t, p1, h⟩ := runB s ha l
  exact ⟨_, pe_callB hc hg hm hv p1 hn hdb he hpl, h⟩
theorem je_callT (hc : CallR X (.type T) r) (s : CallS X.K r g) (hm : X.mg x = none) (hv : bootBuiltins x = some (.type T)) (ha : JA X xi E ms (e :: es) ks f)
    (l : LvA ms ks := by repeat (first | exact lvA0 | refine lvA1 lvN ?_ | refine lvA1 (lvS lv_L rfl) ?_ | refine lvA1 (lvS (lv_At lv_L) rfl) ?_)) (hg : Gl X x := by rfl) (hn : x ≠ "__name__" := by decide) (hdb : (x == ("__debug__" : Str)) = false := by decide)
    (he : starEach (e :: es) X.env = (false, eval e X.env) :: starEach es X.env := by rfl) (hpl : (backTo pos (starEach es X.env)).any (·.1) = false := by rfl) : JE X xi E ms (.Call (.Name x p) (e :: es) [] pos) (mP X.K) (dCallB ks g f) := by
  obtain ⟨t, p1, h⟩ := runB s ha l
  exact ⟨_, pe_callTy hc hg hm hv p1 hn hdb he hpl, h⟩
theorem je_callTL (hc : CallR X (.type T) r) (s : CallL X.K r gl) (hm : X.mg x = none) (hv : bootBuiltins x = some (.type T)) (ha : JA X xi E ms (e :: es) ks f)
    (l : LvA ms ks := by repeat (first | exact lvA0 | refine lvA1 lvN ?_ | refine lvA1 (lvS lv_L rfl) ?_ | refine lvA1 (lvS (lv_At lv_L) rfl) ?_)) (hg : Gl X x := by rfl) (hn : x ≠ "__name__" := by decide) (hdb : (x == ("__debug__" : Str)) = false := by decide)
    (he : starEach (e :: es) X.env = (false, eval e X.env) :: starEach es X.env := by rfl) (hpl : (backTo pos (starEach es X.env)).any (·.1) = false := by rfl) : JE X xi E ms (.Call (.Name x p) (e :: es) [] pos) (mL X.K) (dCallB ks (fun ds => (gl ds).map .list) f) := by
  obtain ⟨t, p1, h⟩ := runL s ha l
  exact ⟨_, pe_callTy hc hg hm hv p1 hn hdb he hpl, h⟩
end
theorem VwAll.one {K : Frag} {G H : Hp} {vs : List V} {d : D} (h : VwAll K G H vs [d]) : ∃ v, vs = [v] ∧ Vw K G H v d := by
  cases h with | cons h t => cases t; exact ⟨_, rfl, h⟩
theorem VwAll.two {K : Frag} {G H : Hp} {vs : List V} {d e : D} (h : VwAll K G H vs [d, e]) : ∃ v w, vs = [v, w] ∧ Vw K G H v d ∧ Vw K G H w e := by
  cases h with | cons h t => cases t with | cons h' t => cases t; exact ⟨_, _, rfl, h, h'⟩
def gLen : List D → Option D
  | [.list ds] => some (.int ds.length)
  | [.tuple ds] => some (.int ds.length)
  | [.str x] => if x.length ≤ lim then some (.int x.length) else none
  | _ => none
def rLenA (K : Frag) : List V → Hp → VK → Prop := fun xs H Q => (∃ p ys, xs = [.ref p] ∧ (SqL K H p ys ∨ SqT K H p ys) ∧ Q (.int ys.length) H) ∨ (∃ z, xs = [.str z] ∧ z.length ≤ sizeLine ∧ Q (.int z.length) H)
theorem call_lenA {X : Cx} : CallR X (.builtin "len") (rLenA X.K) := call_len_seq.or call_len_str
theorem c_len {K : Frag} : CallS K (rLenA K) gLen := fun G H vs ds x Q s hv hg q => by
  unfold gLen at hg
  split at hg
  · cases hg
    obtain ⟨v, rfl, h⟩ := hv.one
    obtain ⟨a, xs, rfl, h1, h2⟩ := h.lst s
    exact .inl ⟨a, xs, rfl, .inl (.inl (.inl h1)), by rw [h2.len]; exact grow0 s (.int _) q⟩
  · cases hg
    obtain ⟨v, rfl, h⟩ := hv.one
    obtain ⟨a, xs, rfl, h1, h2⟩ := h.tup
    exact .inl ⟨a, xs, rfl, .inr (sqT_same s h1), by rw [h2.len]; exact grow0 s (.int _) q⟩
  · split at hg
    · cases hg
      obtain ⟨v, rfl, h⟩ := hv.one
      rename_i hl
      exact .inr ⟨_, by rw [h.str], lim_size hl, grow0 s (.int _) q⟩
    · cases hg
  · cases hg
def gAbs : List D → Option D
  | [.int i] => some (.int (if i < 0 then -i else i))
  | _ => none
theorem c_abs {K : Frag} : CallS K (fun xs H Q => ∃ i, xs = [.int i] ∧ Q (.int (if i < 0 then -i else i)) H) gAbs := fun G H vs ds x Q s hv hg q => by
  unfold gAbs at hg
  split at hg
  · cases hg
    obtain ⟨v, rfl, h⟩ := hv.one
    exact ⟨_, by rw [h.int], grow0 s (.int _) q⟩
  · cases hg
def gInt : List D → Option D
  | [.int i] => some (.int i)
  | [.bool b] => some (.int (if b then 1 else 0))
  | _ => none
theorem c_int {K : Frag} : CallS K (fun xs H Q => (∃ i, xs = [.int i] ∧ Q (.int i) H) ∨ ∃ k, xs = [.bl k] ∧ Q (.int (if k then 1 else 0)) H) gInt := fun G H vs ds x Q s hv hg q => by
  unfold gInt at hg
  split at hg
  · cases hg
    obtain ⟨v, rfl, h⟩ := hv.one
    exact .inl ⟨_, by rw [h.int], grow0 s (.int _) q⟩
  · cases hg
    obtain ⟨v, rfl, h⟩ := hv.one
    exact .inr ⟨_, by rw [h.bl], grow0 s (.int _) q⟩
  · cases hg
def gMax : List D → Option D
  | [.int i, .int j] => some (.int (if j > i then j else i))
  | _ => none
def gMin : List D → Option D
  | [.int i, .int j] => some (.int (if j < i then j else i))
  | _ => none
theorem c_max {K : Frag} : CallS K (fun xs H Q => ∃ i j, xs = [.int i, .int j] ∧ Q (.int (if j > i then j else i)) H) gMax := fun G H vs ds x Q s hv hg q => by
  unfold gMax at hg
  split at hg
  · cases hg
    obtain ⟨v, w, rfl, h, h'⟩ := hv.two
    exact ⟨_, _, by rw [h.int, h'.int], grow0 s (.int _) q⟩
  · cases hg
theorem c_min {K : Frag} : CallS K (fun xs H Q => ∃ i j, xs = [.int i, .int j] ∧ Q (.int (if j < i then j else i)) H) gMin := fun G H vs ds x Q s hv hg q => by
  unfold gMin at hg
  split at hg
  · cases hg
    obtain ⟨v, w, rfl, h, h'⟩ := hv.two
    exact ⟨_, _, by rw [h.int, h'.int], grow0 s (.int _) q⟩
  · cases hg
/-- list(x), tuple(x) of a list, a tuple -/
def gSeq : List D → Option (List D)
  | [.list ds] => some ds
  | [.tuple ds] => some ds
  | _ => none
theorem c_list {K : Frag} : CallL K (fun xs H Q => ∃ p ys, xs = [.ref p] ∧ (SqL K H p ys ∨ SqT K H p ys) ∧ ∀ l, H l = none → Q (.ref l) (upd H l (.lst ys))) gSeq := fun G H vs ds x Q s hv hg q => by
  unfold gSeq at hg
  split at hg
  · cases hg
    obtain ⟨v, rfl, h⟩ := hv.one
    obtain ⟨a, xs, rfl, h1, h2⟩ := h.lst s
    exact ⟨a, xs, rfl, .inl (.inl (.inl h1)), fun l hl => q l xs hl h2⟩
  · cases hg
    obtain ⟨v, rfl, h⟩ := hv.one
    obtain ⟨a, xs, rfl, h1, h2⟩ := h.tup
    exact ⟨a, xs, rfl, .inr (sqT_same s h1), fun l hl => q l xs hl h2⟩
  · cases hg
def gTuple : List D → Option D
  | [.list ds] => some (.tuple ds)
  | [.tuple ds] => some (.tuple ds)
  | _ => none
theorem c_tuple {K : Frag} : CallS K (fun xs H Q => ∃ p ys, xs = [.ref p] ∧ ((SqL K H p ys ∧ ∀ l, H l = none → Q (.ref l) (upd H l (.tup ys))) ∨ (SqT K H p ys ∧ Q (.ref p) H))) gTuple := fun G H vs ds x Q s hv hg q => by
  unfold gTuple at hg
  split at hg
  · cases hg
    obtain ⟨v, rfl, h⟩ := hv.one
    obtain ⟨a, xs, rfl, h1, h2⟩ := h.lst s
    exact ⟨a, xs, rfl, .inl ⟨.inl (.inl h1), fun l hl => grow_tup s hl h2 q⟩⟩
  · cases hg
    obtain ⟨v, rfl, h⟩ := hv.one
    obtain ⟨a, xs, rfl, h1, h2⟩ := h.tup
    exact ⟨a, xs, rfl, .inr ⟨sqT_same s h1, grow0 s (.tup h1 h2) q⟩⟩
  · cases hg

/-- all(..), any(..) of a list of bools -/
def blsOf : List D → Option (List Bool)
  | [] => some []
  | .bool b :: r => (blsOf r).map (b :: ·)
  | _ :: _ => none
def gAll : List D → Option D
  | [.list ds] => (blsOf ds).map fun bs => .bool (bs.all id)
  | _ => none
theorem bls_of {K : Frag} {G : Hp} : ∀ {ds : List D} {bs : List Bool} {vs : List V}, blsOf ds = some bs → DqAll K G vs ds → vs = bs.map V.bl
  | [], _, _, h, t => by cases h; cases t; rfl
  | .bool b :: r, bs, _, h, .cons q t => by
    unfold blsOf at h
    cases hr : blsOf r with
    | none => rw [hr] at h; cases h
    | some cs =>
      rw [hr] at h
      cases h
      rw [q.bl_inv, bls_of hr t]
      rfl
  | .none :: _, _, _, h, _ => by cases h
  | .int _ :: _, _, _, h, _ => by cases h
  | .str _ :: _, _, _, h, _ => by cases h
  | .list _ :: _, _, _, h, _ => by cases h
  | .tuple _ :: _, _, _, h, _ => by cases h
  | .dict _ :: _, _, _, h, _ => by cases h
theorem c_all {K : Frag} : CallS K (rAll K) gAll := fun G H vs ds x Q s hv hg q => by
  unfold gAll at hg
  split at hg
  · rename_i ds
    cases hb : blsOf ds with
    | none => rw [hb] at hg; cases hg
    | some bs =>
      rw [hb] at hg
      cases hg
      obtain ⟨v, rfl, h⟩ := hv.one
      obtain ⟨a, xs, rfl, h1, h2⟩ := h.lst s
      rw [bls_of hb h2] at h1
      exact ⟨a, bs, rfl, .inl (.inl h1), grow0 s (.bl _) q⟩
  · cases hg
/-! ### items and slices -/
def gIx : D → D → Option D
  | .list ds, .int i => atI ds i
  | .tuple ds, .int i => atI ds i
  | .str z, .int i => if z.length ≤ lim then (atI z.cps.toList i).map fun c => .str ⟨#[c]⟩ else none
  | _, _ => none
theorem at_get {K : Frag} {G : Hp} {vs : List V} {ds : List D} {i : Int} {d : D} (h : DqAll K G vs ds) (e : atI ds i = some d) : ∃ v, atI vs i = some v ∧ Dq K G v d := by
  unfold atI at e ⊢
  rw [h.len]
  cases hx : ixN ds.length i with
  | none => rw [hx] at e; cases e
  | some j =>
    rw [hx] at e
    exact h.get e
theorem s_ix {K : Frag} : OpS K (rIx K) gIx := fun G H v w d e x Q s hv hw hg q => by
  unfold gIx at hg
  split at hg
  · obtain ⟨a, xs, rfl, h1, h2⟩ := hv.lst s
    obtain ⟨z, h3, h4⟩ := at_get h2 hg
    exact .inl ⟨a, xs, _, z, rfl, hw.int, .inl (.inl h1), h3, grow0 s h4 q⟩
  · obtain ⟨a, xs, rfl, h1, h2⟩ := hv.tup
    obtain ⟨z, h3, h4⟩ := at_get h2 hg
    exact .inr (.inl ⟨a, xs, _, z, rfl, hw.int, sqT_same s h1, h3, grow0 s h4 q⟩)
  · split at hg
    · rename_i z i hl
      cases hc : atI z.cps.toList i with
      | none => rw [hc] at hg; cases hg
      | some c =>
        rw [hc] at hg
        cases hg
        exact .inr (.inr ⟨z, i, c, hv.str, hw.int, lim_size hl, hc, grow0 s (.str _) q⟩)
    · cases hg
  · cases hg
section
variable {X : Cx} {xi : XI} {E : XK} {ms : List (Md X.K)} {pos : Pos} {a b e : Expr} {k1 k2 : Ok} {f1 f2 f : Den D}
theorem je_ix (h1 : JV X xi E ms a k1 f1) (h2 : JV X xi E ms b k2 f2) (l1 : Lv ms k1 := by first | exact lvN | exact lvS lv_L rfl | exact lvS (lv_At lv_L) rfl) (l2 : Lv ms k2 := by exact lvN) (hs : PlainIx b := by exact fun _ _ => rfl) :
    JE X xi E ms (.Subscript a b pos) (mP X.K) (dOp k1 k2 gIx f1 f2) := by
  obtain ⟨t1, t2, p1, p2, h⟩ := run2 s_ix h1 h2 l1 l2
  exact ⟨_, pe_ix ix_seq p1 p2 hs, h⟩
end
/-- the part from lo to hi -/
def cut {α : Type} (xs : List α) (lo hi : Option Int) : List α := (xs.drop (HT.sIx xs.length 0 lo)).take (HT.sIx xs.length xs.length hi - HT.sIx xs.length 0 lo)
theorem cut_all {K : Frag} {G : Hp} {vs : List V} {ds : List D} (h : DqAll K G vs ds) (lo hi : Option Int) : DqAll K G (cutV vs lo hi) (cut ds lo hi) := by
  unfold cut cutV
  rw [h.len]
  exact (h.drop _).take _
theorem cut_whole {α : Type} (xs : List α) (lo hi : Option Int) (h : HT.sIx xs.length 0 lo = 0 ∧ HT.sIx xs.length xs.length hi = xs.length) : cut xs lo hi = xs := by
  unfold cut
  rw [h.1, h.2]
  simp
def gSl (lo hi : Option Int) : D → Option D
  | .list ds => some (.list (cut ds lo hi))
  | .tuple ds => some (.tuple (cut ds lo hi))
  | .str z => if z.length ≤ lim then some (.str (cutS z lo hi)) else none
  | _ => none
def rSlAll (K : Frag) : V → Option Int → Option Int → Hp → VK → Prop := fun x lo hi H Q => rSlL K x lo hi H Q ∨ (rSlA K x lo hi H Q ∨ rSlS x lo hi H Q)
theorem sl_all {X : Cx} : SlR X (rSlAll X.K) := sl_list.or (sl_tupA.or sl_str)
def SlS (K : Frag) (r : V → Option Int → Option Int → Hp → VK → Prop) (g : Option Int → Option Int → D → Option D) : Prop := ∀ (G H : Hp) (v : V) (d x : D) (lo hi : Option Int) (Q : VK), Same G H → Vw K G H v d → g lo hi d = some x →
  (∀ G' H' z, Grow G H G' H' → Dq K G' z x → Q z H') → r v lo hi H Q
theorem s_sl {K : Frag} : SlS K (rSlAll K) gSl := fun G H v d x lo hi Q s hv hg q => by
  unfold gSl at hg
  split at hg
  · cases hg
    obtain ⟨a, xs, rfl, h1, h2⟩ := hv.lst s
    exact .inl ⟨a, xs, rfl, .inl (.inl h1), fun p np => grow_lst s np (cut_all h2 lo hi) q⟩
  · cases hg
    obtain ⟨a, xs, rfl, h1, h2⟩ := hv.tup
    refine .inr (.inl ⟨a, xs, rfl, sqT_same s h1, fun hw => ?_, fun _ p np => grow_tup s np (cut_all h2 lo hi) q⟩)
    rw [h2.len] at hw
    rw [cut_whole _ _ _ hw] at q
    exact grow0 s (.tup h1 h2) q
  · split at hg
    · cases hg
      rename_i hl
      exact .inr (.inr ⟨_, hv.str, lim_size hl, grow0 s (.str _) q⟩)
    · cases hg
  · cases hg
/-- a slice's ends -/
def PostO (xi : XI) (E : XK) {K : Frag} (ms : List (Md K)) (σ : L2.St) (G H : Hp) (F : Nat → Fp) (Q : Option Int → Hp → Prop) : R (Option Int) → Prop
  | .ok b r => ∀ G' H' F', Ext G H (Un F) G' H' (Un F') → EnvOk ms G' H' σ r F' → Q b H'
  | .exc c ds r => ∀ G' H' F' cls od, Ext G H (Un F) G' H' (Un F') → EnvOk ms G' H' σ r F' → xi c ds cls od G' → E cls od H'
  | .stuck => False
structure JO (X : Cx) (xi : XI) (E : XK) (ms : List (Md X.K)) (e : Option Expr) (f : Den (Option Int)) : Prop where
  run : ∃ t : TO, PO X e t ∧ ∀ (G H : Hp) (σ : L2.St) (ρ : Rho) (F : Nat → Fp) (Q : Option Int → Hp → Prop), EnvOk ms G H σ ρ F → PostO xi E ms σ G H F Q (f ρ) → t σ H Q
def dNoPart : Den (Option Int) := fun ρ => .ok none ρ
def dPart (f : Den D) : Den (Option Int) := fun ρ => (f ρ).bind fun d r => match d with
  | .int i => .ok (some i) r
  | _ => .stuck
def dSl (k : Ok) (f : Den D) (lo hi : Den (Option Int)) : Den D := fun ρ => (f ρ).bind fun d r => (lo r).bind fun l r1 => (hi r1).bind fun h r2 => res k d r2 fun d' => lift (gSl l h d') r2
section
variable {X : Cx} {xi : XI} {E : XK} {ms : List (Md X.K)} {pos p2 : Pos} {a b e : Expr} {k : Ok} {f : Den D} {lo hi : Option Expr} {fl fh : Den (Option Int)}
theorem jo_none : JO X xi E ms none dNoPart := ⟨_, po_none, fun G H σ ρ F Q e q => q G H F (Ext.refl e.sub) e⟩
theorem jo_some (h : JE X xi E ms e (mP X.K) f) : JO X xi E ms (some e) (dPart f) := by
  obtain ⟨t, p, h⟩ := h.run
  refine ⟨_, po_some p, fun G H σ ρ F Q e q => h G H σ ρ F _ e ?_⟩
  unfold dPart at q
  cases hf : f ρ with
  | stuck => rw [hf] at q; exact q
  | exc c ds r => rw [hf] at q; exact q
  | ok d r =>
    rw [hf] at q
    intro G' H' F' v T x e' hv _
    cases d with
    | int i => exact ⟨i, hv.1.int_inv, q G' H' F' (x.weak fun _ z => .inl z) e'⟩
    | _ => exact q.elim
theorem je_sl (h1 : JV X xi E ms a k f) (h2 : JO X xi E ms lo fl) (h3 : JO X xi E ms hi fh) (l1 : Lv ms k := by first | exact lvN | exact lvS lv_L rfl | exact lvS (lv_At lv_L) rfl) : JE X xi E ms (.Subscript a (.Slice lo hi none p2) pos) (mP X.K) (dSl k f fl fh) := by
  obtain ⟨t1, p1, r1⟩ := h1.run
  obtain ⟨t2, p2, r2⟩ := h2.run
  obtain ⟨t3, p3, r3⟩ := h3.run
  refine ⟨_, pe_slice sl_all p1 p2 p3, fun G H σ ρ F Q e q => r1 G H σ ρ F _ e ?_⟩
  unfold dSl at q
  cases hf : f ρ with
  | stuck => rw [hf] at q; exact q
  | exc c ds r => rw [hf] at q; exact q
  | ok d r =>
    rw [hf] at q
    intro G1 H1 F1 v x1 e1 hv
    refine r2 G1 H1 σ r F1 _ e1 ?_
    replace q : PostE xi E ms (mP X.K) σ G H F Q ((fl r).bind fun l r1 => (fh r1).bind fun h r2 => res k d r2 fun d' => lift (gSl l h d') r2) := q
    cases hl : fl r with
    | stuck => rw [hl] at q; exact q
    | exc c ds r => rw [hl] at q; exact fun G' H' F' cls od b e => q G' H' F' cls od (x1.trans b) e
    | ok l r1 =>
      rw [hl] at q
      intro G2 H2 F2 x2 e2
      refine r3 G2 H2 σ r1 F2 _ e2 ?_
      replace q : PostE xi E ms (mP X.K) σ G H F Q ((fh r1).bind fun h r2 => res k d r2 fun d' => lift (gSl l h d') r2) := q
      cases hh : fh r1 with
      | stuck => rw [hh] at q; exact q
      | exc c ds r => rw [hh] at q; exact fun G' H' F' cls od b e => q G' H' F' cls od ((x1.trans x2).trans b) e
      | ok h r2 =>
        rw [hh] at q
        intro G3 H3 F3 x3 e3
        replace q : PostE xi E ms (mP X.K) σ G H F Q (res k d r2 fun d' => lift (gSl l h d') r2) := q
        obtain ⟨d', w, q⟩ := vw_res (v := v) (d := d) (P := PostE xi E ms (mP X.K) σ G H F Q) e3 l1 (hv.same (x2.same.trans x3.same)) q (fun z => z)
        cases hx : gSl l h d' with
        | none => rw [hx] at q; exact q.elim
        | some x =>
          rw [hx] at q
          refine s_sl G3 H3 v d' x l h Q e3.sub w hx fun G' H' z gr hz => ?_
          exact q G' H' F3 z (fun _ => False) ((((x1.trans x2).trans x3).trans (gr.ext _)).weak fun p h => h.elim id fun z => z.elim) (e3.grow gr) ⟨hz, fun _ z => z⟩ fun _ z => z.elim
end

/-! ### isinstance -/
def tyN : D → String
  | .none => "NoneType"
  | .bool _ => "bool"
  | .int _ => "int"
  | .str _ => "str"
  | .list _ => "list"
  | .tuple _ => "tuple"
  | .dict _ => "dict"
def tyNs : List String := ["NoneType", "bool", "int", "str", "list", "tuple"]
theorem Vw.ty {K : Frag} {G H : Hp} {v : V} {d : D} (s : Same G H) (h : Vw K G H v d) : tyN d ∈ tyNs ∧ TyX K H v (.type (tyN d)) := by
  cases h with
  | own h1 h2 => exact ⟨by show "list" ∈ tyNs; decide, .base (.lst h1)⟩
  | pure h =>
    cases h with
    | non => exact ⟨by show "NoneType" ∈ tyNs; decide, .base .non⟩
    | bl b => exact ⟨by show "bool" ∈ tyNs; decide, .base (.bl b)⟩
    | int b => exact ⟨by show "int" ∈ tyNs; decide, .base (.int b)⟩
    | str b => exact ⟨by show "str" ∈ tyNs; decide, .base (.str b)⟩
    | lst h1 h2 => exact ⟨by show "list" ∈ tyNs; decide, .base (.lst (s _ _ h1))⟩
    | tup h1 h2 =>
      refine ⟨by show "tuple" ∈ tyNs; decide, ?_⟩
      rcases sqT_same s h1 with (q | ⟨o, q⟩) | ⟨o, its, n, q1, q2, _⟩
      · exact .base (.tup q)
      · exact .fTuple q
      · exact .kTuple q1 q2
def isi (a b : String) : Bool := a == b || (a == "bool" && b == "int")
def dIsi (T : String) (k : Ok) (f : Den D) : Den D := fun ρ => (f ρ).bind fun d r => res k d r fun d' => .ok (.bool (isi (tyN d') T)) r
def dIsi2 (T T' : String) (k : Ok) (f : Den D) : Den D := fun ρ => (f ρ).bind fun d r => res k d r fun d' => .ok (.bool (isi (tyN d') T || isi (tyN d') T')) r
section
variable {X : Cx} {xi : XI} {E : XK} {ms : List (Md X.K)} {pos p p1 p2 p3 : Pos} {e : Expr} {k : Ok} {f : Den D} {T T' : Str}
theorem je_isi (n : String) (h : JV X xi E ms e k f) (hm : X.mg "isinstance" = none) (hT : X.mg T = none) (hv : bootBuiltins T = some (.type n)) (hk : ∀ a ∈ tyNs, kitB a n = some (isi a n) := by decide +kernel)
    (l1 : Lv ms k := by first | exact lvN | exact lvS lv_L rfl | exact lvS (lv_At lv_L) rfl) (hg : Gl X "isinstance" := by rfl) (hgT : Gl X T := by rfl) (hn : T ≠ "__name__" := by decide) (hdT : (T == ("__debug__" : Str)) = false := by decide)
    (he1 : starEach [.Name T p1] X.env = (false, eval (.Name T p1) X.env) :: starEach [] X.env := by rfl)
    (he : starEach [e, .Name T p1] X.env = (false, eval e X.env) :: starEach [.Name T p1] X.env := by rfl) (hpl : (backTo pos (starEach [.Name T p1] X.env)).any (·.1) = false := by rfl) :
    JE X xi E ms (.Call (.Name "isinstance" p) [e, .Name T p1] [] pos) (mP X.K) (dIsi n k f) := by
  obtain ⟨t, p0, r1⟩ := h.run
  have pT : PE X (.Name T p1) (tC (.ty n)) := pe_bltn hgT hT hv rfl hn hdT
  refine ⟨_, pe_callB call_isi hg hm boot_isinstance (pa_cons p0 (pa_cons pT pa_nil he1) he) (by decide) (by decide) he hpl, fun G H σ ρ F Q e q => r1 G H σ ρ F _ e ?_⟩
  unfold dIsi at q
  cases hf : f ρ with
  | stuck => rw [hf] at q; exact q
  | exc c ds r => rw [hf] at q; exact q
  | ok d r =>
    rw [hf] at q
    intro G1 H1 F1 v x1 e1 hv
    replace q : PostE xi E ms (mP X.K) σ G H F Q (res k d r fun d' => .ok (.bool (isi (tyN d') n)) r) := q
    obtain ⟨d', w, q⟩ := vw_res (v := v) (d := d) (P := PostE xi E ms (mP X.K) σ G H F Q) e1 l1 hv q (fun z => z)
    obtain ⟨m, ty⟩ := w.ty e1.sub
    exact ⟨v, .ty n, _, _, _, rfl, .ty _, ty, kit_ty (hk _ m), q G1 H1 F1 _ (fun _ => False) (x1.weak fun _ z => z.elim id fun z => z.elim) e1 ⟨.bl _, fun _ z => z⟩ fun _ z => z.elim⟩
theorem je_isi2 (n n' : String) (h : JV X xi E ms e k f) (hm : X.mg "isinstance" = none) (hT : X.mg T = none) (hT' : X.mg T' = none) (hv : bootBuiltins T = some (.type n)) (hv' : bootBuiltins T' = some (.type n')) (hk : ∀ a ∈ tyNs, kitB a n = some (isi a n) := by decide +kernel) (hk' : ∀ a ∈ tyNs, kitB a n' = some (isi a n') := by decide +kernel)
    (l1 : Lv ms k := by first | exact lvN | exact lvS lv_L rfl | exact lvS (lv_At lv_L) rfl) (hg : Gl X "isinstance" := by rfl) (hgT : Gl X T := by rfl) (hgT' : Gl X T' := by rfl) (hn : T ≠ "__name__" := by decide) (hdT : (T == ("__debug__" : Str)) = false := by decide) (hn' : T' ≠ "__name__" := by decide) (hdT' : (T' == ("__debug__" : Str)) = false := by decide) {kk : Nat}
    (he0 : starEach [.Name T' p2] X.env = (false, eval (.Name T' p2) X.env) :: starEach [] X.env := by rfl)
    (he1 : starEach [.Name T p1, .Name T' p2] X.env = (false, eval (.Name T p1) X.env) :: starEach [.Name T' p2] X.env := by rfl)
    (he2 : starEach [.Tuple [.Name T p1, .Name T' p2] kk p3] X.env = (false, eval (.Tuple [.Name T p1, .Name T' p2] kk p3) X.env) :: starEach [] X.env := by rfl)
    (he : starEach [e, .Tuple [.Name T p1, .Name T' p2] kk p3] X.env = (false, eval e X.env) :: starEach [.Tuple [.Name T p1, .Name T' p2] kk p3] X.env := by rfl) (hpl : (backTo pos (starEach [.Tuple [.Name T p1, .Name T' p2] kk p3] X.env)).any (·.1) = false := by rfl) :
    JE X xi E ms (.Call (.Name "isinstance" p) [e, .Tuple [.Name T p1, .Name T' p2] kk p3] [] pos) (mP X.K) (dIsi2 n n' k f) := by
  obtain ⟨t, p0, r1⟩ := h.run
  have pT : PE X (.Name T p1) (tC (.ty n)) := pe_bltn hgT hT hv rfl hn hdT
  have pT' : PE X (.Name T' p2) (tC (.ty n')) := pe_bltn hgT' hT' hv' rfl hn' hdT'
  refine ⟨_, pe_callB call_isiT hg hm boot_isinstance (pa_cons p0 (pa_cons (pe_tup (pa_cons pT (pa_cons pT' pa_nil he0) he1)) pa_nil he2) he) (by decide) (by decide) he hpl, fun G H σ ρ F Q e q => r1 G H σ ρ F _ e ?_⟩
  unfold dIsi2 at q
  cases hf : f ρ with
  | stuck => rw [hf] at q; exact q
  | exc c ds r => rw [hf] at q; exact q
  | ok d r =>
    rw [hf] at q
    intro G1 H1 F1 v x1 e1 hv
    replace q : PostE xi E ms (mP X.K) σ G H F Q (res k d r fun d' => .ok (.bool (isi (tyN d') n || isi (tyN d') n')) r) := q
    obtain ⟨d', w, q⟩ := vw_res (v := v) (d := d) (P := PostE xi E ms (mP X.K) σ G H F Q) e1 l1 hv q (fun z => z)
    refine ⟨by show 2 ≤ sizeLine; decide, fun tp np => ?_⟩
    have gr : Grow G1 H1 G1 (upd H1 tp (.tup [.ty n, .ty n'])) := Grow.own e1.sub np
    obtain ⟨m, ty⟩ := (w.grow gr).ty gr.sub
    refine ⟨v, tp, [.ty n, .ty n'], _, [.type n, .type n'], (isi (tyN d') n || isi (tyN d') n'), rfl, upd_same, .cons (.ty _) (.cons (.ty _) .nil), ty, ?_, ?_⟩
    · refine kitAny_cons (kit_ty (hk _ m)) (fun z => ?_) fun z => by rw [z]; rfl
      refine kitAny_cons (kit_ty (hk' _ m)) (fun z' => ?_) fun z' => by rw [z']; simp
      rw [z, z']
      exact kitAny_nil
    · exact q G1 _ F1 _ (fun _ => False) ((x1.trans (gr.ext _)).weak fun _ z => z.elim id fun z => z.elim) (e1.grow gr) ⟨.bl _, fun _ z => z⟩ fun _ z => z.elim
end
end Dn


set_option maxHeartbeats 2000000
/-! Dn5: statements, defs, calls of defs. -/
namespace Dn
open PySem PySem.Spec PyProof.Rows L2

/-! ### what a def is worth -/
abbrev Fn := List D → R D
/-- the parameters that the caller goes on with: place, value, mode -/
abbrev Om (K : Frag) := List (Nat × V × Md K)
def omOf {K : Frag} (own : List Nat) (vs : List V) (pm : List (Md K)) : Om K := own.filterMap fun i => match vs[i]?, pm[i]? with
  | some v, some m => some (i, v, m)
  | _, _ => none
def outs {K : Frag} (om : Om K) (ρ : Rho) : Rho := om.map fun t => (ρ[t.1]?).join
def OmOk {K : Frag} (om : Om K) (G H : Hp) (r : Rho) (F : Nat → Fp) : Prop := EnvOk (om.map (·.2.2)) G H (om.map fun t => some t.2.1) r F
/-- what is wanted behind a def -/
def PostF (xi : XI) (E : XK) {K : Frag} (om : Om K) (rm : Md K) (G H : Hp) (F : Nat → Fp) (Q : VK) : R D → Prop
  | .ok d r => ∀ G' H' F' v T, Ext G H (Un F) G' H' (fun p => Un F' p ∨ T p) → OmOk om G' H' r F' → rm.P G' H' v d T → (∀ p, T p → ¬ Un F' p) → Q v H'
  | .exc c ds r => ∀ G' H' F' cls od, Ext G H (Un F) G' H' (Un F') → OmOk om G' H' r F' → xi c ds cls od G' → E cls od H'
  | .stuck => False
/-- the promise of a def -/
def spF (xi : XI) {K : Frag} (pm : List (Md K)) (own : List Nat) (rm : Md K) (f : Fn) : Sp := fun vs H Q E => ∃ (G : Hp) (ds : List D) (F : Nat → Fp),
  EnvOk pm G H (vs.map some) (ds.map some) F ∧ PostF xi E (omOf own vs pm) rm G H F Q (f ds)
theorem spF_len {xi : XI} {K : Frag} {pm : List (Md K)} {own : List Nat} {rm : Md K} {f : Fn} {n : Nat} (h : pm.length = n) : ∀ vs H Q E, spF xi pm own rm f vs H Q E → vs.length = n := fun vs H Q E ⟨G, ds, F, e, _⟩ => by
  have := e.ls
  rw [List.length_map] at this
  omega

/-! ### statements -/
def PostS (xi : XI) (E : XK) {K : Frag} (om : Om K) (rm : Md K) (ms : List (Md K)) (G H : Hp) (F : Nat → Fp) (C : Ends) : R Fl → Prop
  | .ok .nx r => ∀ G' H' F' σ', Ext G H (Un F) G' H' (Un F') → EnvOk ms G' H' σ' r F' → C.nx σ' H'
  | .ok (.ret d) r => ∀ G' H' F' v T, Ext G H (Un F) G' H' (fun p => Un F' p ∨ T p) → OmOk om G' H' (outs om r) F' → rm.P G' H' v d T → (∀ p, T p → ¬ Un F' p) → C.rt v H'
  | .exc c ds r => ∀ G' H' F' cls od, Ext G H (Un F) G' H' (Un F') → OmOk om G' H' (outs om r) F' → xi c ds cls od G' → E cls od H'
  | .stuck => False
structure JS (X : Cx) (xi : XI) (E : XK) (om : Om X.K) (rm : Md X.K) (ms : List (Md X.K)) (st : Stmt) (ms' : List (Md X.K)) (f : Den Fl) : Prop where
  run : ∃ t : TS, PS X st t ∧ ∀ (G H : Hp) (σ : L2.St) (ρ : Rho) (F : Nat → Fp) (C : Ends), EnvOk ms G H σ ρ F → PostS xi E om rm ms' G H F C (f ρ) → t C σ H
structure JSs (X : Cx) (xi : XI) (E : XK) (om : Om X.K) (rm : Md X.K) (ms : List (Md X.K)) (st : List Stmt) (ms' : List (Md X.K)) (f : Den Fl) : Prop where
  run : ∃ t : TS, PSs X st t ∧ ∀ (G H : Hp) (σ : L2.St) (ρ : Rho) (F : Nat → Fp) (C : Ends), EnvOk ms G H σ ρ F → PostS xi E om rm ms' G H F C (f ρ) → t C σ H
/-- the parameters to go on with stand where they stood -/
def Ow {K : Frag} (om : Om K) (ms : List (Md K)) : Prop := (om.map (·.1)).Nodup ∧ ∀ t ∈ om, ms[t.1]? = some (mAt t.2.1 t.2.2)
theorem ow0 {K : Frag} {ms : List (Md K)} : Ow [] ms := ⟨by simp, fun _ h => nomatch h⟩
theorem ow1 {K : Frag} {ms : List (Md K)} {i : Nat} {v : V} {m : Md K} (h : ms[i]? = some (mAt v m)) : Ow [(i, v, m)] ms := ⟨by simp, fun t ht => by
  rw [List.mem_singleton.mp ht]
  exact h⟩
theorem ow2 {K : Frag} {ms : List (Md K)} {i j : Nat} {v w : V} {m m' : Md K} (n : i ≠ j) (h : ms[i]? = some (mAt v m)) (h' : ms[j]? = some (mAt w m')) : Ow [(i, v, m), (j, w, m')] ms := ⟨by simp [n], fun t ht => by
  rcases List.mem_cons.mp ht with z | z
  · rw [z]; exact h
  · rw [List.mem_singleton.mp z]; exact h'⟩
/-- the map from their order to the slots -/
def omF {K : Frag} (om : Om K) (F : Nat → Fp) : Nat → Fp := fun j p => ∃ t, om[j]? = some t ∧ F t.1 p
theorem omF_un {K : Frag} {om : Om K} {F : Nat → Fp} {p : Addr} (h : Un (omF om F) p) : Un F p := by
  obtain ⟨j, t, _, h⟩ := h
  exact ⟨_, h⟩
theorem EnvOk.om {K : Frag} {om : Om K} {ms : List (Md K)} {G H : Hp} {σ : L2.St} {ρ : Rho} {F : Nat → Fp} (e : EnvOk ms G H σ ρ F) (w : Ow om ms) : OmOk om G H (outs om ρ) (omF om F) := by
  refine ⟨e.sub, by simp, by simp [outs], fun j m s r h1 h2 h3 => ?_, fun i j p h1 h2 => ?_, fun i hi p h => ?_⟩
  · rw [List.getElem?_map] at h1 h2
    unfold outs at h3
    rw [List.getElem?_map] at h3
    cases ht : om[j]? with
    | none => rw [ht] at h1; cases h1
    | some t =>
      rw [ht] at h1 h2 h3
      cases h1
      cases h2
      cases h3
      have hm := w.2 t (List.mem_of_getElem? ht)
      have hi : t.1 < ms.length := (List.getElem?_eq_some_iff.mp hm).1
      have hr : ρ[t.1]? = some (ρ[t.1]'(by rw [e.lr]; exact hi)) := List.getElem?_eq_getElem _
      have so := e.at_ t.1 _ (σ[t.1]'(by rw [e.ls]; exact hi)) _ hm (List.getElem?_eq_getElem _) hr
      have eF : omF om F j = F t.1 := by
        funext p
        refine propext ⟨fun ⟨t', h1, h2⟩ => ?_, fun h => ⟨t, ht, h⟩⟩
        rw [ht] at h1
        cases h1
        exact h2
      rw [eF]
      show SlotOk t.2.2 G H (some t.2.1) (ρ[t.1]?).join (F t.1)
      rw [hr]
      show SlotOk t.2.2 G H (some t.2.1) (ρ[t.1]'(by rw [e.lr]; exact hi)) (F t.1)
      cases hd : ρ[t.1]'(by rw [e.lr]; exact hi) with
      | none => rw [hd] at so; exact so
      | some d =>
        rw [hd] at so
        obtain ⟨v, e1, h⟩ := so
        refine ⟨t.2.1, rfl, ?_⟩
        have := h.2
        rw [h.1] at this
        exact this
  · obtain ⟨t, hi, h1⟩ := h1
    obtain ⟨u, hj, h2⟩ := h2
    have q : t.1 = u.1 := e.dis _ _ p h1 h2
    have nd := w.1
    obtain ⟨li, ei⟩ := List.getElem?_eq_some_iff.mp hi
    obtain ⟨lj, ej⟩ := List.getElem?_eq_some_iff.mp hj
    refine (List.getElem_inj (h₀ := by simpa using li) (h₁ := by simpa using lj) nd).mp ?_
    rw [List.getElem_map, List.getElem_map, ei, ej]
    exact q
  · rw [List.length_map] at hi
    obtain ⟨t, h1, h2⟩ := h
    rw [List.getElem?_eq_none hi] at h1
    cases h1
section
variable {X : Cx} {xi : XI} {E : XK} {om : Om X.K} {rm : Md X.K} {ms ms' ms2 : List (Md X.K)} {pos : Pos} {st : Stmt} {rest sa sb : List Stmt} {e c : Expr} {f g : Den Fl} {fe : Den D} {h : Den Bool} {m : Md X.K}
theorem PostS.ext {K : Frag} {om : Om K} {rm : Md K} {ms : List (Md K)} {G H G1 H1 : Hp} {F F1 : Nat → Fp} {C : Ends} {x : R Fl} (a : Ext G H (Un F) G1 H1 (Un F1)) (h : PostS xi E om rm ms G H F C x) : PostS xi E om rm ms G1 H1 F1 C x := by
  cases x with
  | ok fl r => cases fl with
    | nx => exact fun G' H' F' σ' b e => h G' H' F' σ' (a.trans b) e
    | ret d => exact fun G' H' F' v T b e => h G' H' F' v T (a.trans b) e
  | exc c ds r => exact fun G' H' F' cls od b e => h G' H' F' cls od (a.trans b) e
  | stuck => exact h
/-- an exception out of an expression -/
theorem exc_of {K : Frag} {om : Om K} {ms : List (Md K)} {G H : Hp} {σ : L2.St} {F : Nat → Fp} {c : String} {ds : List D} {r : Rho} (w : Ow om ms)
    (q : ∀ G' H' F' cls od, Ext G H (Un F) G' H' (Un F') → OmOk om G' H' (outs om r) F' → xi c ds cls od G' → E cls od H') :
    ∀ G' H' F' cls od, Ext G H (Un F) G' H' (Un F') → EnvOk ms G' H' σ r F' → xi c ds cls od G' → E cls od H' :=
  fun G' H' F' cls od x e' hx => q G' H' (omF om F') cls od (x.weak fun _ z => omF_un z) (e'.om w) hx
def dNx : Den Fl := fun ρ => .ok .nx ρ
theorem jss_nil : JSs X xi E om rm ms [] ms dNx := ⟨_, pss_nil, fun G H σ ρ F C e q => q G H F σ (Ext.refl e.sub) e⟩
def dSeq (f g : Den Fl) : Den Fl := fun ρ => (f ρ).bind fun fl r => match fl with
  | .nx => g r
  | .ret d => .ok (.ret d) r
theorem jss_cons (h1 : JS X xi E om rm ms st ms' f) (h2 : JSs X xi E om rm ms' rest ms2 g) : JSs X xi E om rm ms (st :: rest) ms2 (dSeq f g) := by
  obtain ⟨t, p, h1⟩ := h1.run
  obtain ⟨t', p', h2⟩ := h2.run
  refine ⟨_, pss_cons p p', fun G H σ ρ F C e q => h1 G H σ ρ F _ e ?_⟩
  unfold dSeq at q
  cases hf : f ρ with
  | stuck => rw [hf] at q; exact q
  | exc c ds r => rw [hf] at q; exact q
  | ok fl r =>
    rw [hf] at q
    cases fl with
    | ret d => exact q
    | nx => exact fun G' H' F' σ' x e' => h2 G' H' σ' r F' C e' (PostS.ext x q)
theorem jss_one (h1 : JS X xi E om rm ms st ms' f) : JSs X xi E om rm ms [st] ms' f := let ⟨t, p, h⟩ := h1.run; ⟨t, pss_one p, h⟩
/-- a list of one's own is frozen ahead of a statement -/
theorem EnvOk.frz {K : Frag} {ms : List (Md K)} {G H : Hp} {σ : L2.St} {ρ : Rho} {F : Nat → Fp} (e : EnvOk ms G H σ ρ F) {i : Nat} (hi : ms[i]? = some (mL K)) :
    ∃ G' F', Ext G H (Un F) G' H (Un F') ∧ EnvOk (ms.set i (mP K)) G' H σ ρ F' := by
  have hl : i < ms.length := (List.getElem?_eq_some_iff.mp hi).1
  have hs : σ[i]? = some (σ[i]'(by rw [e.ls]; exact hl)) := List.getElem?_eq_getElem _
  have hr : ρ[i]? = some (ρ[i]'(by rw [e.lr]; exact hl)) := List.getElem?_eq_getElem _
  have so := e.at_ i _ _ _ hi hs hr
  have base : ∀ (G' : Hp) (F' : Nat → Fp), Same G G' → Same G' H → (∀ j, j ≠ i → F' j = F j) → (∀ p, ¬ F' i p) → (∀ p, (∃ o, G' p = some o) → (∃ o, G p = some o) ∨ F i p) → SlotOk (mP K) G' H (σ[i]'(by rw [e.ls]; exact hl)) (ρ[i]'(by rw [e.lr]; exact hl)) (F' i) →
      Ext G H (Un F) G' H (Un F') ∧ EnvOk (ms.set i (mP K)) G' H σ ρ F' := fun G' F' h1 h2 h3 h4 h5 h6 => by
    have un : ∀ p, Un F' p → Un F p := fun p ⟨j, hj⟩ => by
      by_cases z : j = i
      · subst z; exact (h4 p hj).elim
      · rw [h3 j z] at hj; exact ⟨j, hj⟩
    refine ⟨⟨h1, h2, fun p hp => (h5 p hp).imp_right fun z => .inr ⟨i, z⟩, fun _ _ z _ => z, fun p hp => .inl (un p hp)⟩, ⟨h2, by simp [e.ls], by simp [e.lr], fun j m s r a1 a2 a3 => ?_, fun a b p ha hb => ?_, fun j hj p hp => ?_⟩⟩
    · by_cases z : j = i
      · subst z
        rw [List.getElem?_set_self hl] at a1
        cases a1
        rw [hs] at a2; cases a2
        rw [hr] at a3; cases a3
        exact h6
      · rw [List.getElem?_set_ne (Ne.symm z)] at a1
        have so := e.at_ j m s r a1 a2 a3
        rw [h3 j z]
        cases r with
        | none => exact so
        | some d =>
          obtain ⟨v, e1, hv⟩ := so
          refine ⟨v, e1, m.mono hv h1 (fun p hp => ?_) fun _ _ => rfl⟩
          rcases none_or (H := G') p with q | q
          · exact q
          · rcases h5 p q with ⟨o, q⟩ | q
            · rw [(m.out hv p hp).1] at q; cases q
            · exact absurd (e.dis _ _ p hp q) z
    · by_cases za : a = i
      · subst za; exact (h4 p ha).elim
      · by_cases zb : b = i
        · subst zb; exact (h4 p hb).elim
        · rw [h3 a za] at ha; rw [h3 b zb] at hb
          exact e.dis a b p ha hb
    · rw [List.length_set] at hj
      have z : j ≠ i := by omega
      rw [h3 j z] at hp
      exact e.off j hj p hp
  cases hd : ρ[i]'(by rw [e.lr]; exact hl) with
  | none =>
    rw [hd] at so
    refine ⟨G, F, base G F (Same.refl _) e.sub (fun _ _ => rfl) so (fun p hp => .inl hp) ?_⟩
    rw [hd]; exact so
  | some d =>
    rw [hd] at so
    obtain ⟨v, e1, a, vs, ds, rfl, rfl, h1, h2, h3, h4⟩ := so
    refine ⟨upd G a (.lst vs), fun j => if j = i then fun _ => False else F j, base _ _ (same_up h2) (Grow.frz e.sub h1) (fun j hj => if_neg hj) (fun p hp => ?_) (fun p hp => ?_) ?_⟩
    · rw [if_pos rfl] at hp; exact hp
    · by_cases z : p = a
      · exact .inr ((h4 p).2 z)
      · rw [upd_ne z] at hp; exact .inl hp
    · rw [hd]
      refine ⟨.ref a, e1, .lst upd_same (h3.same (same_up h2)), fun p hp => ?_⟩
      rw [if_pos rfl] at hp; exact hp
theorem jss_frz (i : Nat) (hi : ms[i]? = some (mL X.K)) (h2 : JSs X xi E om rm (ms.set i (mP X.K)) rest ms2 g) : JSs X xi E om rm ms rest ms2 g := by
  obtain ⟨t, p, h2⟩ := h2.run
  refine ⟨t, p, fun G H σ ρ F C e q => ?_⟩
  obtain ⟨G', F', x, e'⟩ := e.frz hi
  exact h2 G' H σ ρ F' C e' (PostS.ext x q)

/-! the small ones -/
theorem EnvOk.put {K : Frag} {ms : List (Md K)} {m : Md K} {G H : Hp} {σ : L2.St} {ρ : Rho} {F : Nat → Fp} {v : V} {d : D} {T : Fp} (e : EnvOk ms G H σ ρ F) (i : Nat) (hi : i < ms.length) (hv : m.P G H v d T) (dis : ∀ p, T p → ¬ Un F p) :
    EnvOk (ms.set i m) G H (σ.set i (some v)) (ρ.set i (some d)) (fun j => if j = i then T else F j) := by
  refine ⟨e.sub, by simp [e.ls], by simp [e.lr], fun j m' s r a1 a2 a3 => ?_, fun a b p ha hb => ?_, fun j hj p hp => ?_⟩
  · by_cases z : j = i
    · subst z
      rw [List.getElem?_set_self hi] at a1
      rw [List.getElem?_set_self (by rw [e.ls]; exact hi)] at a2
      rw [List.getElem?_set_self (by rw [e.lr]; exact hi)] at a3
      cases a1; cases a2; cases a3
      rw [if_pos rfl]
      exact ⟨v, rfl, hv⟩
    · rw [List.getElem?_set_ne (Ne.symm z)] at a1 a2 a3
      rw [if_neg z]
      exact e.at_ j m' s r a1 a2 a3
  · by_cases za : a = i
    · by_cases zb : b = i
      · rw [za, zb]
      · rw [if_pos za] at ha; rw [if_neg zb] at hb
        exact (dis p ha ⟨b, hb⟩).elim
    · by_cases zb : b = i
      · rw [if_neg za] at ha; rw [if_pos zb] at hb
        exact (dis p hb ⟨a, ha⟩).elim
      · rw [if_neg za] at ha; rw [if_neg zb] at hb
        exact e.dis a b p ha hb
  · rw [List.length_set] at hj
    have z : j ≠ i := by omega
    rw [if_neg z] at hp
    exact e.off j hj p hp
theorem un_put {F : Nat → Fp} {T : Fp} {i : Nat} {p : Addr} (h : Un (fun j => if j = i then T else F j) p) : Un F p ∨ T p := by
  obtain ⟨j, h⟩ := h
  by_cases z : j = i
  · rw [if_pos z] at h; exact .inr h
  · rw [if_neg z] at h; exact .inl ⟨j, h⟩
def dSet (i : Nat) (f : Den D) : Den Fl := fun ρ => (f ρ).bind fun d r => .ok .nx (r.set i (some d))
theorem js_set (i : Nat) {x : Str} {px : Pos} (he : JE X xi E ms e m fe) (nd : X.N.Nodup) (hN : X.N[i]? = some x := by rfl) (hi : (ms[i]?).isSome = true := by rfl) (ow : Ow om ms := by first | exact ow0 | exact ow1 rfl | exact ow2 (by decide) rfl rfl)
    (hx : Loc X.env.scope x := by first | exact .inl rfl | exact .inr rfl) (hs : swapsWith e (some (.Name x px)) pos.line X.env = pure false := by rfl)
    (hf : X.fn x = true ∨ X.env.scope.names.lookup x = some .local := by first | exact .inl rfl | exact .inr rfl) : JS X xi E om rm ms (.Assign [.Name x px] e pos) (ms.set i m) (dSet i fe) := by
  obtain ⟨t, p, he⟩ := he.run
  refine ⟨_, ps_set nd hN hx p hs hf, fun G H σ ρ F C e q => he G H σ ρ F _ e ?_⟩
  unfold dSet at q
  cases hf : fe ρ with
  | stuck => rw [hf] at q; exact q
  | exc c ds r => rw [hf] at q; exact exc_of ow q
  | ok d r =>
    rw [hf] at q
    intro G' H' F' v T x e' hv dis
    exact q G' H' _ _ (x.weak fun p hp => un_put hp) (e'.put i (lt_some hi) hv dis)
def dRet (f : Den D) : Den Fl := fun ρ => (f ρ).bind fun d r => .ok (.ret d) r
theorem js_ret (he : JE X xi E ms e rm fe) (ow : Ow om ms := by first | exact ow0 | exact ow1 rfl | exact ow2 (by decide) rfl rfl) : JS X xi E om rm ms (.Return (some e) pos) ms' (dRet fe) := by
  obtain ⟨t, p, he⟩ := he.run
  refine ⟨_, ps_ret p, fun G H σ ρ F C e q => he G H σ ρ F _ e ?_⟩
  unfold dRet at q
  cases hf : fe ρ with
  | stuck => rw [hf] at q; exact q
  | exc c ds r => rw [hf] at q; exact exc_of ow q
  | ok d r =>
    rw [hf] at q
    intro G' H' F' v T x e' hv dis
    exact q G' H' (omF om F') v T (x.weak fun p hp => hp.imp_left omF_un) (e'.om ow) hv fun p hp u => dis p hp (omF_un u)
/-- return x, x a list of one's own that is not a parameter -/
def dRetS (i : Nat) : Den Fl := fun ρ => match ρ[i]? with
  | some (some d) => .ok (.ret d) ρ
  | _ => .stuck
theorem js_retL (i : Nat) {x : Str} {px : Pos} (hm : ms[i]? = some rm := by rfl) (ni : ∀ t ∈ om, t.1 ≠ i := by intro t ht; first | exact nomatch ht | (simp only [List.mem_cons, List.mem_singleton, List.not_mem_nil, or_false] at ht; rcases ht with rfl | rfl <;> decide) | (simp only [List.mem_cons, List.mem_singleton, List.not_mem_nil, or_false] at ht; rcases ht with rfl; decide)) (hN : X.N[i]? = some x := by rfl) (ow : Ow om ms := by first | exact ow0 | exact ow1 rfl | exact ow2 (by decide) rfl rfl)
    (hv : Vis X.env.scope x := by first | exact Or.inl rfl | exact Or.inr (Or.inl rfl) | exact Or.inr (Or.inr rfl))
    (hd : (x == ("__debug__" : Str)) = false := by decide) (hcd : (x == ("__classdict__" : Str)) = false := by decide) : JS X xi E om rm ms (.Return (some (.Name x px)) pos) ms' (dRetS i) := by
  refine ⟨_, ps_ret (pe_var hN hv hd hcd), fun G H σ ρ F C e q => ?_⟩
  unfold dRetS at q
  split at q
  · rename_i d hd
    obtain ⟨v, h1, h2⟩ := e.get hm hd
    refine ⟨v, h1, q G H (omF om F) v (F i) ((Ext.refl e.sub).weak fun p hp => hp.elim omF_un fun z => ⟨i, z⟩) (e.om ow) h2 fun p hp ⟨j, t, ht, u⟩ => ?_⟩
    exact ni t (List.mem_of_getElem? ht) (e.dis _ _ p u hp)
  · exact q.elim
def dRetN : Den Fl := fun ρ => .ok (.ret .none) ρ
def dIfS (h : Den Bool) (f g : Den Fl) : Den Fl := fun ρ => (h ρ).bind fun b r => if b = true then f r else g r
theorem js_if (hc : JT X xi E ms c h) (ha : JSs X xi E om rm ms sa ms' f) (hb : JSs X xi E om rm ms sb ms' g) (ow : Ow om ms := by first | exact ow0 | exact ow1 rfl | exact ow2 (by decide) rfl rfl) : JS X xi E om rm ms (.If c sa sb pos) ms' (dIfS h f g) := by
  obtain ⟨t, p, hc⟩ := hc.run
  obtain ⟨t1, p1, ha⟩ := ha.run
  obtain ⟨t2, p2, hb⟩ := hb.run
  refine ⟨_, ps_if p p1 p2, fun G H σ ρ F C e q => hc G H σ ρ F _ e ?_⟩
  unfold dIfS at q
  cases hf : h ρ with
  | stuck => rw [hf] at q; exact q
  | exc c ds r => rw [hf] at q; exact exc_of ow q
  | ok b r =>
    rw [hf] at q
    intro G' H' F' x e'
    replace q : PostS xi E om rm ms' G H F C (if b = true then f r else g r) := q
    cases b with
    | true => rw [if_pos rfl] at q ⊢; exact ha G' H' σ r F' C e' (PostS.ext x q)
    | false => rw [if_neg (by decide)] at q ⊢; exact hb G' H' σ r F' C e' (PostS.ext x q)
/-- while, by fuel -/
def whileD (h : Den Bool) (f : Den Fl) : Nat → Den Fl
  | 0 => fun _ => .stuck
  | n + 1 => fun ρ => (h ρ).bind fun b r => if b = true then (f r).bind fun fl r2 => match fl with
    | .nx => whileD h f n r2
    | .ret d => .ok (.ret d) r2
    else .ok .nx r
theorem js_while (n : Nat) (hp : PassesOwn (model X.prog X.w) X.A X.env X.xe) (hc : JT X xi E ms c h) (hb : JSs X xi E om rm ms sb ms f) (ow : Ow om ms := by first | exact ow0 | exact ow1 rfl | exact ow2 (by decide) rfl rfl) : JS X xi E om rm ms (.While c sb [] pos) ms (whileD h f n) := by
  obtain ⟨t, p, hc⟩ := hc.run
  obtain ⟨t1, p1, hb⟩ := hb.run
  refine ⟨_, ps_while hp p p1, fun G H σ ρ F C e q => ⟨fun k σ H => ∃ G F ρ, EnvOk ms G H σ ρ F ∧ PostS xi E om rm ms G H F C (whileD h f k ρ), ⟨n, G, F, ρ, e, q⟩, fun k σ H ⟨G, F, ρ, e, q⟩ => ?_⟩⟩
  cases k with
  | zero => exact q.elim
  | succ k =>
    refine hc G H σ ρ F _ e ?_
    unfold whileD at q
    cases hf : h ρ with
    | stuck => rw [hf] at q; exact q
    | exc c ds r => rw [hf] at q; exact exc_of ow q
    | ok b r =>
      rw [hf] at q
      intro G' H' F' x e'
      cases b with
      | false =>
        rw [if_neg (by decide)]
        exact q G' H' F' σ x e'
      | true =>
        rw [if_pos rfl]
        replace q : PostS xi E om rm ms G H F C ((f r).bind fun fl r2 => match fl with
          | .nx => whileD h f k r2
          | .ret d => .ok (.ret d) r2) := q
        refine ⟨fun σ H => ∃ G F ρ, EnvOk ms G H σ ρ F ∧ PostS xi E om rm ms G H F C (whileD h f k ρ), fun σ' H' z => ⟨k, Nat.lt_succ_self k, z⟩, hb G' H' σ r F' _ e' ?_⟩
        cases hf2 : f r with
        | stuck => rw [hf2] at q; exact q
        | exc c ds r => rw [hf2] at q; exact fun G2 H2 F2 cls od b e => q G2 H2 F2 cls od (x.trans b) e
        | ok fl r2 =>
          rw [hf2] at q
          cases fl with
          | ret d => exact fun G2 H2 F2 v T b e => q G2 H2 F2 v T (x.trans b) e
          | nx => exact fun G2 H2 F2 σ2 x2 e2 => ⟨G2, F2, r2, e2, PostS.ext (x.trans x2) q⟩
end

/-! ### a def by its body -/
/-- the def's function: N names, own the parameters to go on with -/
def fnD (N : Nat) (own : List Nat) (f : Den Fl) : Fn := fun ds => match f (ds.map some ++ List.replicate (N - ds.length) none) with
  | .ok .nx r => .ok .none (own.map fun i => (r[i]?).join)
  | .ok (.ret d) r => .ok d (own.map fun i => (r[i]?).join)
  | .exc c es r => .exc c es (own.map fun i => (r[i]?).join)
  | .stuck => .stuck
/-- the modes at the start -/
def ms0 {K : Frag} (N : Nat) (own : List Nat) (vs : List V) (pm : List (Md K)) : List (Md K) := (List.range N).map fun i => match pm[i]? with
  | some m => if own.contains i then mAt (vs.getD i .non) m else m
  | none => mP K
theorem omOf_at {K : Frag} {own : List Nat} {vs : List V} {pm : List (Md K)} (h : ∀ i ∈ own, i < vs.length ∧ i < pm.length) (r : Rho) : (outs (omOf own vs pm) r) = own.map fun i => (r[i]?).join := by
  unfold outs omOf
  induction own with
  | nil => rfl
  | cons a own ih =>
    obtain ⟨h1, h2⟩ := h a List.mem_cons_self
    rw [List.filterMap_cons, List.getElem?_eq_getElem h1, List.getElem?_eq_getElem h2]
    show _ :: _ = _ :: _
    rw [ih fun i hi => h i (List.mem_cons_of_mem _ hi)]
theorem start_env {K : Frag} {N : List Str} {own : List Nat} {vs : List V} {pm : List (Md K)} {G H : Hp} {ds : List D} {F : Nat → Fp} (hN : pm.length ≤ N.length) (e : EnvOk pm G H (vs.map some) (ds.map some) F) :
    EnvOk (ms0 N.length own vs pm) G H (L2.start N vs) (ds.map some ++ List.replicate (N.length - ds.length) none) F := by
  have l1 := e.ls
  have l2 := e.lr
  rw [List.length_map] at l1 l2
  refine ⟨e.sub, ?_, ?_, fun i m s r a1 a2 a3 => ?_, e.dis, fun i hi p hp => ?_⟩
  · unfold L2.start ms0
    simp
    omega
  · unfold ms0
    simp
    omega
  · unfold ms0 at a1
    rw [List.getElem?_map] at a1
    have hi : i < N.length := by
      rcases Nat.lt_or_ge i N.length with z | z
      · exact z
      · rw [List.getElem?_eq_none (by simpa using z)] at a1; cases a1
    rw [List.getElem?_range hi] at a1
    unfold L2.start at a2
    by_cases hp : i < pm.length
    · rw [List.getElem?_append_left (by simp; omega)] at a2
      rw [List.getElem?_append_left (by simp; omega)] at a3
      have hm : pm[i]? = some pm[i] := List.getElem?_eq_getElem hp
      have so := e.at_ i _ s r hm a2 a3
      have q : some (if own.contains i then mAt (vs.getD i .non) pm[i] else pm[i]) = some m := by
        rw [← a1]
        show _ = some (match pm[i]? with
          | some m => if own.contains i then mAt (vs.getD i .non) m else m
          | none => mP K)
        rw [hm]
      cases q
      split
      · cases r with
        | none => exact so
        | some d =>
          obtain ⟨v, e1, h⟩ := so
          refine ⟨v, e1, ?_, h⟩
          rw [List.getElem?_map] at a2
          have hv : vs[i]? = some vs[i] := List.getElem?_eq_getElem (by omega)
          rw [hv] at a2
          cases a2
          cases e1
          rw [List.getD_eq_getElem?_getD, hv]
          rfl
      · exact so
    · rw [List.getElem?_append_right (by simp; omega)] at a3
      rw [List.getElem?_replicate] at a3
      split at a3
      · cases a3
        exact fun p hp' => e.off i (by omega) p hp'
      · cases a3
  · unfold ms0 at hi
    simp at hi
    exact e.off i (by omega) p hp
theorem fn_body {P : Program} {w : World} {X : Cx} {xi : XI} {E : XK} {own : List Nat} {pm : List (Md X.K)} {rm : Md X.K} {ms' : List (Md X.K)} {N : List Str} {body : List Stmt} {f : Den Fl} {vs : List V} {H : Hp} {Q : VK}
    (h : JSs X xi E (omOf own vs pm) rm (ms0 N.length own vs pm) body ms' f) (hr : rm = mP X.K) (ow : Ow (omOf own vs pm) ms') (hN : pm.length ≤ N.length) (ho : ∀ i ∈ own, i < pm.length) (hsp : spF xi pm own rm (fnD N.length own f) vs H Q E) :
    ∃ t, PSs X body t ∧ t { nx := fun _ H' => Q .non H', rt := Q } (L2.start N vs) H := by
  obtain ⟨t, p, h⟩ := h.run
  obtain ⟨G, ds, F, e, q⟩ := hsp
  have l1 := e.ls
  rw [List.length_map] at l1
  refine ⟨t, p, h G H _ _ F _ (start_env hN e) ?_⟩
  unfold fnD at q
  have ho' : ∀ r, outs (omOf own vs pm) r = own.map fun i => (r[i]?).join := omOf_at fun i hi => ⟨by have := ho i hi; omega, ho i hi⟩
  cases hf : f (ds.map some ++ List.replicate (N.length - ds.length) none) with
  | stuck => rw [hf] at q; exact q
  | exc c es r =>
    rw [hf] at q
    intro G' H' F' cls od x e' hx
    rw [ho'] at e'
    exact q G' H' F' cls od x e' hx
  | ok fl r =>
    rw [hf] at q
    cases fl with
    | ret d =>
      intro G' H' F' v T x e' hv dis
      rw [ho'] at e'
      exact q G' H' F' v T x e' hv dis
    | nx =>
      subst hr
      intro G' H' F' σ' x e'
      have e2 := e'.om ow
      rw [ho'] at e2
      exact q G' H' _ .non (fun _ => False) (x.weak fun p hp => hp.elim omF_un fun z => z.elim) e2 ⟨.non, fun _ z => z⟩ fun _ z => z.elim
/-- .. whose end always returns -/
theorem fn_bodyR {P : Program} {w : World} {X : Cx} {xi : XI} {E : XK} {own : List Nat} {pm : List (Md X.K)} {rm : Md X.K} {ms' : List (Md X.K)} {N : List Str} {body : List Stmt} {f : Den Fl} {vs : List V} {H : Hp} {Q : VK}
    (h : JSs X xi E (omOf own vs pm) rm (ms0 N.length own vs pm) body ms' f) (hN : pm.length ≤ N.length) (ho : ∀ i ∈ own, i < pm.length) (hx : ∀ ρ r, f ρ ≠ .ok .nx r) (hsp : spF xi pm own rm (fnD N.length own f) vs H Q E) :
    ∃ t, PSs X body t ∧ t { nx := fun _ H' => Q .non H', rt := Q } (L2.start N vs) H := by
  obtain ⟨t, p, h⟩ := h.run
  obtain ⟨G, ds, F, e, q⟩ := hsp
  have l1 := e.ls
  rw [List.length_map] at l1
  refine ⟨t, p, h G H _ _ F _ (start_env hN e) ?_⟩
  unfold fnD at q
  have ho' : ∀ r, outs (omOf own vs pm) r = own.map fun i => (r[i]?).join := omOf_at fun i hi => ⟨by have := ho i hi; omega, ho i hi⟩
  cases hf : f (ds.map some ++ List.replicate (N.length - ds.length) none) with
  | stuck => rw [hf] at q; exact q
  | exc c es r =>
    rw [hf] at q
    intro G' H' F' cls od x e' hx
    rw [ho'] at e'
    exact q G' H' F' cls od x e' hx
  | ok fl r =>
    rw [hf] at q
    cases fl with
    | ret d =>
      intro G' H' F' v T x e' hv dis
      rw [ho'] at e'
      exact q G' H' F' v T x e' hv dis
    | nx => exact absurd hf (hx _ _)
end Dn


set_option maxHeartbeats 2000000
/-! Dn6: calls of defs. -/
namespace Dn
open PySem PySem.Spec PyProof.Rows L2

/-- the caller's mode serves the callee's, there and back -/
def Sub {K : Frag} (m m' : Md K) : Prop := ∀ G H v d S, m.P G H v d S → m'.P G H v d S ∧ ∀ G2 H2 d2 S2, m'.P G2 H2 v d2 S2 → m.P G2 H2 v d2 S2
theorem sub_refl {K : Frag} {m : Md K} : Sub m m := fun _ _ _ _ _ h => ⟨h, fun _ _ _ _ h => h⟩
theorem sub_at {K : Frag} {m : Md K} {v0 : V} : Sub (mAt v0 m) m := fun _ _ _ _ _ h => ⟨h.2, fun _ _ _ _ h' => ⟨h.1, h'⟩⟩
/-- nothing is held -/
def NoFp {K : Frag} (m : Md K) : Prop := ∀ G H v d S, m.P G H v d S → ∀ p, ¬ S p
theorem nofp_S {K : Frag} : NoFp (mS K) := fun _ _ _ _ _ h => h.2
structure ArgOk {K : Frag} (ms pm : List (Md K)) (own : List Nat) (ks : List Ok) (sl : List Nat) : Prop where
  len : ks.length = pm.length
  val : ∀ (j : Nat), ks[j]? = some none → pm[j]? = some (mP K)
  slot : ∀ (j i : Nat), ks[j]? = some (some i) → ∃ m m', ms[i]? = some m ∧ pm[j]? = some m' ∧ Sub m m' ∧ ((∃ jj : Nat, own[jj]? = some j ∧ sl[jj]? = some i) ∨ NoFp m')
  osl : sl.length = own.length
  ow : ∀ (jj j : Nat), own[jj]? = some j → ∃ i, ks[j]? = some (some i) ∧ sl[jj]? = some i
  nds : sl.Nodup
  ndo : own.Nodup
theorem argOk0 {K : Frag} {ms : List (Md K)} (n : Nat) : ArgOk ms (List.replicate n (mP K)) [] (List.replicate n none) [] where
  len := by simp
  val j h := by
    rw [List.getElem?_replicate] at h ⊢
    split at h
    · rename_i hj; rw [if_pos hj]
    · cases h
  slot j i h := by
    rw [List.getElem?_replicate] at h
    split at h <;> cases h
  osl := rfl
  ow jj j h := by simp at h
  nds := by simp
  ndo := by simp
theorem argOk1 {K : Frag} {ms : List (Md K)} (i n : Nat) {m m' : Md K} (hm : ms[i]? = some m) (hs : Sub m m') : ArgOk ms (m' :: List.replicate n (mP K)) [0] (some i :: List.replicate n none) [i] where
  len := by simp
  val j h := by
    cases j with
    | zero => cases h
    | succ j =>
      simp only [List.getElem?_cons_succ, List.getElem?_replicate] at h ⊢
      split at h
      · rename_i hj; rw [if_pos hj]
      · cases h
  slot j i' h := by
    cases j with
    | zero => cases h; exact ⟨m, m', hm, rfl, hs, .inl ⟨0, rfl, rfl⟩⟩
    | succ j =>
      simp only [List.getElem?_cons_succ, List.getElem?_replicate] at h
      split at h <;> cases h
  osl := rfl
  ow jj j h := by
    cases jj with
    | zero => cases h; exact ⟨i, rfl, rfl⟩
    | succ jj => simp at h
  nds := by simp
  ndo := by simp
/-- a first argument that is read alone (the script) -/
theorem argOkS {K : Frag} {ms : List (Md K)} (i n : Nat) {m m' : Md K} (hm : ms[i]? = some m) (hs : Sub m m') (hn : NoFp m') : ArgOk ms (m' :: List.replicate n (mP K)) [] (some i :: List.replicate n none) [] where
  len := by simp
  val j h := by
    cases j with
    | zero => cases h
    | succ j =>
      simp only [List.getElem?_cons_succ, List.getElem?_replicate] at h ⊢
      split at h
      · rename_i hj; rw [if_pos hj]
      · cases h
  slot j i' h := by
    cases j with
    | zero => cases h; exact ⟨m, m', hm, rfl, hs, .inr hn⟩
    | succ j =>
      simp only [List.getElem?_cons_succ, List.getElem?_replicate] at h
      split at h <;> cases h
  osl := rfl
  ow jj j h := by simp at h
  nds := by simp
  ndo := by simp

inductive ArgV (K : Frag) (G : Hp) (σ : L2.St) (ρ : Rho) : List Ok → List V → List D → Prop
  | nil : ArgV K G σ ρ [] [] []
  | val {v : V} {d : D} {ks : List Ok} {vs : List V} {ds : List D} : Dq K G v d → ArgV K G σ ρ ks vs ds → ArgV K G σ ρ (none :: ks) (v :: vs) (d :: ds)
  | slot {i : Nat} {v : V} {d : D} {ks : List Ok} {vs : List V} {ds : List D} : σ[i]? = some (some v) → ρ[i]? = some (some d) → ArgV K G σ ρ ks vs ds → ArgV K G σ ρ (some i :: ks) (v :: vs) (d :: ds)
theorem argV_of {α : Type} {K : Frag} {G : Hp} {σ : L2.St} {ρ : Rho} {P : R α → Prop} (hs : ¬ P .stuck) {ks : List Ok} {vs : List V} {ds : List D} (t : DqA K G σ ks vs ds) :
    ∀ {c : List D → R α}, P (resA ks ds ρ c) → ∃ ds', ArgV K G σ ρ ks vs ds' ∧ P (c ds') := by
  induction t with
  | nil => exact fun h => ⟨[], .nil, h⟩
  | @val v d ks vs ds hv t ih =>
    intro c h
    obtain ⟨ds', h1, h2⟩ := ih (c := fun ds' => c (d :: ds')) h
    exact ⟨d :: ds', .val hv h1, h2⟩
  | @slot i v d ks vs ds hv t ih =>
    intro c h
    have h : P (match ρ[i]? with
      | some (some d) => resA ks ds ρ fun ds' => c (d :: ds')
      | _ => .stuck) := h
    split at h
    · rename_i d' hd
      obtain ⟨ds', h1, h2⟩ := ih (c := fun ds' => c (d' :: ds')) h
      exact ⟨d' :: ds', .slot hv hd h1, h2⟩
    · exact (hs h).elim
theorem ArgV.len {K : Frag} {G : Hp} {σ : L2.St} {ρ : Rho} {ks : List Ok} {vs : List V} {ds : List D} (t : ArgV K G σ ρ ks vs ds) : vs.length = ks.length ∧ ds.length = ks.length := by
  induction t with
  | nil => exact ⟨rfl, rfl⟩
  | val _ _ ih => simp [ih]
  | slot _ _ _ ih => simp [ih]
theorem ArgV.at_ {K : Frag} {G : Hp} {σ : L2.St} {ρ : Rho} {ks : List Ok} {vs : List V} {ds : List D} (t : ArgV K G σ ρ ks vs ds) : ∀ {j : Nat} {k : Ok}, ks[j]? = some k → ∃ v d, vs[j]? = some v ∧ ds[j]? = some d ∧
    ((k = none ∧ Dq K G v d) ∨ ∃ i, k = some i ∧ σ[i]? = some (some v) ∧ ρ[i]? = some (some d)) := by
  induction t with
  | nil => intro j k h; simp at h
  | @val v d ks vs ds hv t ih =>
    intro j k h
    cases j with
    | zero => cases h; exact ⟨v, d, rfl, rfl, .inl ⟨rfl, hv⟩⟩
    | succ j => exact ih (j := j) (by simpa using h)
  | @slot i v d ks vs ds hv hd t ih =>
    intro j k h
    cases j with
    | zero => cases h; exact ⟨v, d, rfl, rfl, .inr ⟨i, rfl, hv, hd⟩⟩
    | succ j => exact ih (j := j) (by simpa using h)
theorem ArgV.app {K : Frag} {G : Hp} {σ : L2.St} {ρ : Rho} {ks : List Ok} {vs ws : List V} {ds es : List D} (t : ArgV K G σ ρ ks vs ds) (h : DqAll K G ws es) : ArgV K G σ ρ (ks ++ List.replicate es.length none) (vs ++ ws) (ds ++ es) := by
  induction t with
  | nil =>
    induction es generalizing ws with
    | nil => cases h; exact .nil
    | cons e es ih => cases h with | cons h1 h2 => exact .val h1 (ih h2)
  | val hv _ ih => exact .val hv ih
  | slot hv hd _ ih => exact .slot hv hd ih
/-- the arguments' footprints -/
def argF (ks : List Ok) (F : Nat → Fp) : Nat → Fp := fun j p => ∃ i, ks[j]? = some (some i) ∧ F i p
theorem argF_un {ks : List Ok} {F : Nat → Fp} {p : Addr} (h : Un (argF ks F) p) : Un F p := by
  obtain ⟨j, i, _, h⟩ := h
  exact ⟨i, h⟩
theorem args_env {K : Frag} {ms pm : List (Md K)} {own sl : List Nat} {ks : List Ok} {G H : Hp} {σ : L2.St} {ρ : Rho} {F : Nat → Fp} {vs : List V} {ds : List D} (A : ArgOk ms pm own ks sl) (e : EnvOk ms G H σ ρ F) (t : ArgV K G σ ρ ks vs ds) :
    EnvOk pm G H (vs.map some) (ds.map some) (argF ks F) := by
  obtain ⟨l1, l2⟩ := t.len
  have lk := A.len
  refine ⟨e.sub, by simp [l1, lk], by simp [l2, lk], fun j m s r a1 a2 a3 => ?_, fun a b p ha hb => ?_, fun j hj p hp => ?_⟩
  · have hj : j < ks.length := by rw [lk]; exact (List.getElem?_eq_some_iff.mp a1).1
    obtain ⟨v, d, e1, e2, h⟩ := t.at_ (List.getElem?_eq_getElem hj)
    rw [List.getElem?_map, e1] at a2
    rw [List.getElem?_map, e2] at a3
    cases a2
    cases a3
    rcases h with ⟨hk, hv⟩ | ⟨i, hk, h1, h2⟩
    · have hm := A.val j (by rw [List.getElem?_eq_getElem hj, hk])
      rw [hm] at a1
      cases a1
      refine ⟨v, rfl, hv, fun p ⟨i, hi, _⟩ => ?_⟩
      rw [List.getElem?_eq_getElem hj, hk] at hi
      cases hi
    · have hki : ks[j]? = some (some i) := by rw [List.getElem?_eq_getElem hj, hk]
      obtain ⟨m0, m', hm, hm', sb, _⟩ := A.slot j i hki
      rw [hm'] at a1
      cases a1
      obtain ⟨v', q1, q2⟩ := e.get hm h2
      rw [h1] at q1
      cases q1
      have eF : argF ks F j = F i := by
        funext p
        refine propext ⟨fun ⟨i', h1, h2⟩ => ?_, fun h => ⟨i, hki, h⟩⟩
        rw [hki] at h1
        cases h1
        exact h2
      rw [eF]
      exact ⟨v, rfl, (sb _ _ _ _ _ q2).1⟩
  · obtain ⟨i, h1, h2⟩ := ha
    obtain ⟨i', h3, h4⟩ := hb
    have q : i = i' := e.dis _ _ p h2 h4
    subst q
    have key : ∀ c : Nat, ks[c]? = some (some i) → ∃ jj : Nat, own[jj]? = some c ∧ sl[jj]? = some i := fun c hc => by
      obtain ⟨m0, m', hm, hm', sb, z⟩ := A.slot c i hc
      rcases z with z | z
      · exact z
      · exfalso
        obtain ⟨v, d, _, _, h⟩ := t.at_ hc
        rcases h with ⟨hk, _⟩ | ⟨i', hk, q1, q2⟩
        · cases hk
        · cases hk
          obtain ⟨v', _, q4⟩ := e.get hm q2
          exact z _ _ _ _ _ (sb _ _ _ _ _ q4).1 p h2
    obtain ⟨j1, o1, s1⟩ := key a h1
    obtain ⟨j2, o2, s2⟩ := key b h3
    obtain ⟨n1, e1⟩ := List.getElem?_eq_some_iff.mp s1
    obtain ⟨n2, e2⟩ := List.getElem?_eq_some_iff.mp s2
    have : j1 = j2 := (List.getElem_inj A.nds).mp (e1.trans e2.symm)
    subst this
    rw [o1] at o2
    cases o2
    rfl
  · obtain ⟨i, h1, _⟩ := hp
    rw [List.getElem?_eq_none (by rw [lk]; exact hj)] at h1
    cases h1

/-- the slots are written back -/
def wb : List Nat → Rho → Rho → Rho
  | i :: sl, o :: os, r => wb sl os (r.set i o)
  | _, _, r => r
theorem wb_len : ∀ (sl : List Nat) (os r : Rho), (wb sl os r).length = r.length
  | [], _, _ => rfl
  | _ :: _, [], _ => rfl
  | i :: sl, o :: os, r => by
    unfold wb
    rw [wb_len sl os]
    simp
theorem wb_out : ∀ (sl : List Nat) (os r : Rho) (i : Nat), i ∉ sl → (wb sl os r)[i]? = r[i]?
  | [], _, _, _, _ => rfl
  | _ :: _, [], _, _, _ => rfl
  | k :: sl, o :: os, r, i, h => by
    unfold wb
    rw [wb_out sl os _ i fun z => h (List.mem_cons_of_mem _ z), List.getElem?_set_ne fun z => h (by rw [z]; exact List.mem_cons_self)]
theorem wb_in : ∀ (sl : List Nat) (os r : Rho) (jj i : Nat) (o : Option D), sl.Nodup → i < r.length → sl[jj]? = some i → os[jj]? = some o → (wb sl os r)[i]? = some o
  | [], _, _, _, _, _, _, _, h, _ => by simp at h
  | _ :: _, [], _, _, _, _, _, _, _, h => by simp at h
  | k :: sl, o' :: os, r, 0, i, o, nd, hi, h1, h2 => by
    cases h1
    cases h2
    unfold wb
    rw [wb_out sl os _ k (List.nodup_cons.mp nd).1, List.getElem?_set_self hi]
  | k :: sl, o' :: os, r, jj + 1, i, o, nd, hi, h1, h2 => by
    unfold wb
    exact wb_in sl os _ jj i o (List.nodup_cons.mp nd).2 (by simpa using hi) (by simpa using h1) (by simpa using h2)
def dCall (own : List Nat) (ks : List Ok) (sl : List Nat) (dds : List D) (f : Fn) (fa : Den (List D)) : Den D := fun ρ => (fa ρ).bind fun ds r => resA ks ds r fun ds' => match f (ds' ++ dds) with
  | .ok d os => .ok d (wb sl os r)
  | .exc c es os => .exc c es (wb sl os r)
  | .stuck => .stuck
theorem omOf_get {K : Frag} {own : List Nat} {vs : List V} {pm : List (Md K)} (h : ∀ j ∈ own, j < vs.length ∧ j < pm.length) {jj j : Nat} {v : V} {m : Md K} (h1 : own[jj]? = some j) (h2 : vs[j]? = some v) (h3 : pm[j]? = some m) : (omOf own vs pm)[jj]? = some (j, v, m) := by
  unfold omOf
  induction own generalizing jj with
  | nil => simp at h1
  | cons a own ih =>
    obtain ⟨q1, q2⟩ := h a List.mem_cons_self
    rw [List.filterMap_cons, List.getElem?_eq_getElem q1, List.getElem?_eq_getElem q2]
    cases jj with
    | zero =>
      cases h1
      rw [List.getElem?_eq_getElem q1] at h2
      rw [List.getElem?_eq_getElem q2] at h3
      cases h2
      cases h3
      rfl
    | succ jj => exact ih (fun j hj => h j (List.mem_cons_of_mem _ hj)) (by simpa using h1)
theorem omOf_len {K : Frag} {own : List Nat} {vs : List V} {pm : List (Md K)} (h : ∀ j ∈ own, j < vs.length ∧ j < pm.length) : (omOf own vs pm).length = own.length := by
  unfold omOf
  induction own with
  | nil => rfl
  | cons a own ih =>
    obtain ⟨q1, q2⟩ := h a List.mem_cons_self
    rw [List.filterMap_cons, List.getElem?_eq_getElem q1, List.getElem?_eq_getElem q2]
    exact congrArg (· + 1) (ih fun j hj => h j (List.mem_cons_of_mem _ hj))
/-- the caller's names behind a call -/
theorem back_env {K : Frag} {ms pm : List (Md K)} {own sl : List Nat} {ks : List Ok} {G H G2 H2 : Hp} {σ : L2.St} {ρ os : Rho} {F F2 : Nat → Fp} {vs : List V} {ds : List D} {T : Fp} (A : ArgOk ms pm own ks sl) (e : EnvOk ms G H σ ρ F) (t : ArgV K G σ ρ ks vs ds)
    (x : Ext G H (Un (argF ks F)) G2 H2 (fun p => Un F2 p ∨ T p)) (o : OmOk (omOf own vs pm) G2 H2 os F2) (dis : ∀ p, T p → ¬ Un F2 p) :
    ∃ F3, EnvOk ms G2 H2 σ (wb sl os ρ) F3 ∧ Ext G H (Un F) G2 H2 (fun p => Un F3 p ∨ T p) ∧ ∀ p, T p → ¬ Un F3 p := by
  obtain ⟨l1, l2⟩ := t.len
  have lk := A.len
  have hown : ∀ j ∈ own, j < vs.length ∧ j < pm.length := fun j hj => by
    obtain ⟨jj, hjj⟩ := List.mem_iff_getElem?.mp hj
    obtain ⟨i, hi, _⟩ := A.ow jj j hjj
    have := (List.getElem?_eq_some_iff.mp hi).1
    omega
  have lo : os.length = own.length := by
    have := o.lr
    rw [List.length_map, omOf_len hown] at this
    exact this
  -- a slot that was handed in
  have slot_in : ∀ jj i : Nat, sl[jj]? = some i → ∃ j v m m', own[jj]? = some j ∧ ks[j]? = some (some i) ∧ vs[j]? = some v ∧ σ[i]? = some (some v) ∧ ms[i]? = some m ∧ pm[j]? = some m' ∧ Sub m m' ∧ (omOf own vs pm)[jj]? = some (j, v, m') ∧ (∃ d, ρ[i]? = some (some d) ∧ m.P G H v d (F i)) := fun jj i h => by
    have hjj : jj < own.length := by rw [← A.osl]; exact (List.getElem?_eq_some_iff.mp h).1
    have ho : own[jj]? = some own[jj] := List.getElem?_eq_getElem hjj
    obtain ⟨i', hk, hs⟩ := A.ow jj _ ho
    rw [h] at hs
    cases hs
    obtain ⟨m, m', hm, hm', sb, _⟩ := A.slot _ i hk
    obtain ⟨v, d, ev, _, q⟩ := t.at_ hk
    rcases q with ⟨z, _⟩ | ⟨i', z, q1, q2⟩
    · cases z
    · cases z
      obtain ⟨v', q3, q4⟩ := e.get hm q2
      rw [q1] at q3
      cases q3
      exact ⟨_, v, m, m', ho, hk, ev, q1, hm, hm', sb, omOf_get hown ho ev hm', d, q2, q4⟩
  let F3 : Nat → Fp := fun i p => (i ∉ sl ∧ F i p) ∨ ∃ jj : Nat, sl[jj]? = some i ∧ F2 jj p
  have ndx : ∀ {a b i : Nat}, sl[a]? = some i → sl[b]? = some i → a = b := fun {a b i} h1 h2 => by
    obtain ⟨n1, e1⟩ := List.getElem?_eq_some_iff.mp h1
    obtain ⟨n2, e2⟩ := List.getElem?_eq_some_iff.mp h2
    exact (List.getElem_inj A.nds).mp (e1.trans e2.symm)
  -- what was not handed in is apart
  have apart : ∀ i p, i ∉ sl → F i p → ¬ Un (argF ks F) p := fun i p hi hp ⟨j, i', hk, hp'⟩ => by
    have q := e.dis _ _ p hp hp'
    subst q
    obtain ⟨m, m', hm, hm', sb, z⟩ := A.slot j i hk
    rcases z with ⟨jj, _, z⟩ | z
    · exact hi (List.mem_of_getElem? z)
    · obtain ⟨v, d, _, _, h⟩ := t.at_ hk
      rcases h with ⟨hk, _⟩ | ⟨i', hk, q1, q2⟩
      · cases hk
      · cases hk
        obtain ⟨v', _, q4⟩ := e.get hm q2
        exact z _ _ _ _ _ (sb _ _ _ _ _ q4).1 p hp
  have held : ∀ i p, F i p → ∃ o, H p = some o := fun i p hp => by
    have hl : i < ms.length := by
      rcases Nat.lt_or_ge i ms.length with z | z
      · exact z
      · exact (e.off i z p hp).elim
    have so := e.at_ i ms[i] (σ[i]'(by rw [e.ls]; exact hl)) (ρ[i]'(by rw [e.lr]; exact hl)) (List.getElem?_eq_getElem hl) (List.getElem?_eq_getElem _) (List.getElem?_eq_getElem _)
    unfold SlotOk at so
    split at so
    · obtain ⟨v, _, hv⟩ := so
      exact (ms[i].out hv p hp).2
    · exact (so p hp).elim
  have un3 : ∀ p, Un F3 p → Un F p ∨ Un F2 p := fun p ⟨i, h⟩ => by
    rcases h with ⟨_, h⟩ | ⟨jj, _, h⟩
    · exact .inl ⟨i, h⟩
    · exact .inr ⟨jj, h⟩
  have far : ∀ i p, i ∉ sl → F i p → ¬ (Un F2 p ∨ T p) := fun i p hi hp q => by
    rcases x.unew p q with z | z
    · exact apart i p hi hp z
    · obtain ⟨o, h⟩ := held i p hp
      rw [h] at z; cases z
  refine ⟨F3, ⟨x.sub, e.ls, by rw [wb_len]; exact e.lr, fun i m s r a1 a2 a3 => ?_, fun a b p ha hb => ?_, fun i hi p hp => ?_⟩, ⟨x.same, x.sub, fun p hp => (x.gnew p hp).imp_right fun z => z.imp_right argF_un, fun p o h u => x.keep p o h fun z => u (argF_un z), fun p hp => ?_⟩, fun p ht u => ?_⟩
  · by_cases hi : i ∈ sl
    · obtain ⟨jj, hjj⟩ := List.mem_iff_getElem?.mp hi
      obtain ⟨j, v, m0, m', ho, hk, ev, es, hm, hm', sb, ht, d0, hd0, hp0⟩ := slot_in jj i hjj
      rw [hm] at a1
      cases a1
      rw [es] at a2
      cases a2
      have hil : i < ρ.length := (List.getElem?_eq_some_iff.mp hd0).1
      have hol : jj < os.length := by rw [lo]; exact (List.getElem?_eq_some_iff.mp ho).1
      rw [wb_in sl os ρ jj i os[jj] A.nds hil hjj (List.getElem?_eq_getElem hol)] at a3
      cases a3
      have so := o.at_ jj m' (some v) os[jj] (by rw [List.getElem?_map, ht]; rfl) (by rw [List.getElem?_map, ht]; rfl) (List.getElem?_eq_getElem hol)
      have eF : F3 i = F2 jj := by
        funext p
        refine propext ⟨fun h => ?_, fun h => .inr ⟨jj, hjj, h⟩⟩
        rcases h with ⟨h, _⟩ | ⟨j2, h, q⟩
        · exact (h hi).elim
        · rw [ndx h hjj] at q; exact q
      rw [eF]
      cases hd : os[jj] with
      | none => rw [hd] at so; exact so
      | some d =>
        rw [hd] at so
        obtain ⟨v', e1, h⟩ := so
        cases e1
        exact ⟨v, rfl, (sb _ _ _ _ _ hp0).2 _ _ _ _ h⟩
    · rw [wb_out sl os ρ i hi] at a3
      have so := e.at_ i m s r a1 a2 a3
      have eF : F3 i = F i := by
        funext p
        refine propext ⟨fun h => ?_, fun h => .inl ⟨hi, h⟩⟩
        rcases h with ⟨_, h⟩ | ⟨jj, h, _⟩
        · exact h
        · exact (hi (List.mem_of_getElem? h)).elim
      rw [eF]
      cases r with
      | none => exact so
      | some d =>
        obtain ⟨v, e1, hv⟩ := so
        exact ⟨v, e1, x.md hv fun p hp => apart i p hi hp⟩
  · rcases ha with ⟨na, ha⟩ | ⟨ja, sa, ha⟩
    · rcases hb with ⟨nb, hb⟩ | ⟨jb, sb, hb⟩
      · exact e.dis a b p ha hb
      · exact (far a p na ha (.inl ⟨jb, hb⟩)).elim
    · rcases hb with ⟨nb, hb⟩ | ⟨jb, sb, hb⟩
      · exact (far b p nb hb (.inl ⟨ja, ha⟩)).elim
      · have q := o.dis _ _ p ha hb
        subst q
        rw [sa] at sb
        cases sb
        rfl
  · rcases hp with ⟨_, hp⟩ | ⟨jj, h, _⟩
    · exact e.off i hi p hp
    · obtain ⟨j, v, m, m', _, _, _, _, hm, _⟩ := slot_in jj i h
      have := (List.getElem?_eq_some_iff.mp hm).1
      omega
  · rcases hp with hp | hp
    · rcases un3 p hp with z | z
      · exact .inl z
      · rcases x.unew p (.inl z) with q | q
        · exact .inl (argF_un q)
        · exact .inr q
    · rcases x.unew p (.inr hp) with q | q
      · exact .inl (argF_un q)
      · exact .inr q
  · obtain ⟨i, h⟩ := u
    rcases h with ⟨hi, h⟩ | ⟨jj, _, h⟩
    · exact far i p hi h (.inr ht)
    · exact dis p ht ⟨jj, h⟩
section
variable {X : Cx} {xi : XI} {E : XK} {ms pm : List (Md X.K)} {own sl : List Nat} {ks : List Ok} {rm : Md X.K} {f : Fn} {fa : Den (List D)} {es : List Expr} {dvs : List V} {dds : List D}
/-- the arguments, then the callee's promise -/
theorem run_call (A : ArgOk ms pm own (ks ++ List.replicate dds.length none) sl) (hd : ∀ G, DqAll X.K G dvs dds) (h : JA X xi E ms es ks fa) : ∃ t : TA, PA X es t ∧
    ∀ (G H : Hp) (σ : L2.St) (ρ : Rho) (F : Nat → Fp) (Q : VK), EnvOk ms G H σ ρ F → PostE xi E ms rm σ G H F Q (dCall own ks sl dds f fa ρ) → tCall (spF xi pm own rm f) dvs E t σ H Q := by
  obtain ⟨t, p, h⟩ := h.run
  refine ⟨t, p, fun G H σ ρ F Q e q => h G H σ ρ F _ e ?_⟩
  unfold dCall at q
  cases hf : fa ρ with
  | stuck => rw [hf] at q; exact q
  | exc c ds r => rw [hf] at q; exact q
  | ok ds r =>
    rw [hf] at q
    intro G1 H1 F1 vs x1 e1 hv
    replace q : PostE xi E ms rm σ G H F Q (resA ks ds r fun ds' => match f (ds' ++ dds) with
      | .ok d os => .ok d (wb sl os r)
      | .exc c es os => .exc c es (wb sl os r)
      | .stuck => .stuck) := q
    obtain ⟨ds', hw, q⟩ := argV_of (P := PostE xi E ms rm σ G H F Q) (fun z => z) hv q
    have hw2 := hw.app (hd G1)
    refine ⟨G1, ds' ++ dds, _, args_env A e1 hw2, ?_⟩
    cases hr : f (ds' ++ dds) with
    | stuck => rw [hr] at q; exact q
    | ok d os =>
      rw [hr] at q
      intro G2 H2 F2 v T x2 o hm dis
      obtain ⟨F3, e3, x3, d3⟩ := back_env A e1 hw2 x2 o dis
      exact q G2 H2 F3 v T (x1.trans x3) e3 hm d3
    | exc c es os =>
      rw [hr] at q
      intro G2 H2 F2 cls od x2 o hx
      obtain ⟨F3, e3, x3, d3⟩ := back_env (T := fun _ => False) A e1 hw2 (x2.weak fun p z => z.elim id fun z => z.elim) o fun _ z => z.elim
      exact q G2 H2 F3 cls od ((x1.trans x3).weak fun p z => .inl z) e3 hx
variable {e : Expr} {x : Str} {p pos : Pos} {k j : Nat} {fA : Addr} {fd : FuncData} {ps : List Str} {ds : List Value}
/-- a def that may be called -/
structure Cal (P : Program) (w : World) (K : Frag) (mg : Str → Option Value) (base : Heap) (k : Nat) (x : Str) (sp : Sp) (dvs : List V) : Prop where
  ex : ∃ (f : Addr) (fd : FuncData) (ps : List Str) (ds : List Value), FnOk P w K mg base (L2.CX P w) k f fd ps sp ∧ mg x = some (.ref f) ∧ PySem.W.keepIn K (.ref f) = true ∧ Binds K fd ps ds ∧ Vals dvs ds
theorem je_call (c : Cfg X E j) (C : Cal X.prog X.w X.K X.mg X.base k x (spF xi pm own rm f) dvs) (A : ArgOk ms pm own (ks ++ List.replicate dds.length none) sl) (hd : ∀ G, DqAll X.K G dvs dds) (ha : JA X xi E ms (e :: es) ks fa) (hk : k ≤ j := by first | decide | omega) (hg : Gl X x := by rfl)
    (hdb : (x == ("__debug__" : Str)) = false := by decide) (he : starEach (e :: es) X.env = (false, eval e X.env) :: starEach es X.env := by rfl) (hpl : (backTo pos (starEach es X.env)).any (·.1) = false := by rfl) :
    JE X xi E ms (.Call (.Name x p) (e :: es) [] pos) rm (dCall own ks sl dds f fa) := by
  obtain ⟨f', fd, ps, ds, F, h1, h2, h3, h4⟩ := C.ex
  obtain ⟨t, pt, h⟩ := run_call (rm := rm) (f := f) A hd ha
  exact ⟨_, pe_call F (c.room.mono hk) hg h1 h2 h3 h4 c.pass pt hdb he hpl, h⟩
/-- .. whose only argument is a list that was just made, one's own: it isn't asked for again -/
def dCallO (f : Fn) (fe : Den D) : Den D := fun ρ => (fe ρ).bind fun d r => match f [d] with
  | .ok x _ => .ok x r
  | .exc c es _ => .exc c es r
  | .stuck => .stuck
end
end Dn


set_option maxHeartbeats 2000000
/-! Dn7: targets, iterators, for, comprehensions, lists changed in place. -/
namespace Dn
open PySem PySem.Spec PyProof.Rows L2

/-! ### targets -/
abbrev Tg := D → Rho → Option Rho
def PostG {K : Frag} (ms : List (Md K)) (ws : List Nat) (σ : L2.St) (G H : Hp) (F : Nat → Fp) (Q : L2.St → Hp → Prop) : Option Rho → Prop
  | some r => ∀ G' H' F' σ', Ext G H (Un F) G' H' (Un F') → EnvOk ms G' H' σ' r F' → (∀ i : Nat, i ∉ ws → σ'[i]? = σ[i]?) → σ'.length = σ.length → Q σ' H'
  | none => False
structure JG (X : Cx) (ms : List (Md X.K)) (tg : Expr) (ms' : List (Md X.K)) (ws : List Nat) (h : Tg) : Prop where
  run : ∃ g : TG, PG X tg g ∧ ∀ (G H : Hp) (σ : L2.St) (ρ : Rho) (F : Nat → Fp) (v : V) (d : D) (Q : L2.St → Hp → Prop), EnvOk ms G H σ ρ F → Dq X.K G v d → PostG ms' ws σ G H F Q (h d ρ) → g v σ H Q
structure JGs (X : Cx) (ms : List (Md X.K)) (ts : List Expr) (ms' : List (Md X.K)) (ws : List Nat) (h : List D → Rho → Option Rho) : Prop where
  run : ∃ g : TGs, PGs X ts g ∧ ∀ (G H : Hp) (σ : L2.St) (ρ : Rho) (F : Nat → Fp) (vs : List V) (ds : List D) (Q : L2.St → Hp → Prop), EnvOk ms G H σ ρ F → DqAll X.K G vs ds → PostG ms' ws σ G H F Q (h ds ρ) → g vs σ H Q
def tN (i : Nat) : Tg := fun d ρ => some (ρ.set i (some d))
def tNil' : List D → Rho → Option Rho := fun ds ρ => match ds with
  | [] => some ρ
  | _ => none
def tCons' (h : Tg) (hs : List D → Rho → Option Rho) : List D → Rho → Option Rho := fun ds ρ => match ds with
  | d :: ds => (h d ρ).bind fun r => hs ds r
  | [] => none
def tTup' (n : Nat) (hs : List D → Rho → Option Rho) : Tg := fun d ρ => match d with
  | .tuple ds => if ds.length = n then hs ds ρ else none
  | _ => none
section
variable {X : Cx} {ms ms' ms2 : List (Md X.K)} {pos : Pos} {e : Expr} {es : List Expr} {ws ws' : List Nat} {h : Tg} {hs : List D → Rho → Option Rho}
theorem jg_name (i : Nat) {x : Str} (nd : X.N.Nodup) (hN : X.N[i]? = some x := by rfl) (hi : (ms[i]?).isSome = true := by rfl) (hx : Loc X.env.scope x := by first | exact .inl rfl | exact .inr rfl)
    (hf : X.fn x = true ∨ X.env.scope.names.lookup x = some .local := by first | exact .inl rfl | exact .inr rfl) : JG X ms (.Name x pos) (ms.set i (mP X.K)) [i] (tN i) := by
  refine ⟨_, pg_name nd hN hx hf, fun G H σ ρ F v d Q e hv q => ?_⟩
  exact q G H _ _ ((Ext.refl e.sub).weak fun p hp => (un_put hp).elim id fun z => z.elim) (e.put (m := mP X.K) i (lt_some hi) ⟨hv, fun _ z => z⟩ fun _ z => z.elim) (fun j hj => by
    rw [List.getElem?_set_ne fun z => hj (by simp [z])]) (by simp)
theorem jgs_nil : JGs X ms [] ms [] tNil' := by
  refine ⟨_, pgs_nil, fun G H σ ρ F vs ds Q e hv q => ?_⟩
  cases hv with
  | nil => exact ⟨rfl, q G H F σ (Ext.refl e.sub) e (fun _ _ => rfl) rfl⟩
  | cons _ _ => exact q.elim
theorem jgs_cons (h1 : JG X ms e ms' ws h) (h2 : JGs X ms' es ms2 ws' hs) (ha : (assignEach (e :: es) X.env).map (·.2) = assign e X.env :: (assignEach es X.env).map (·.2) := by rfl) : JGs X ms (e :: es) ms2 (ws ++ ws') (tCons' h hs) := by
  obtain ⟨g, p, h1⟩ := h1.run
  obtain ⟨g', p', h2⟩ := h2.run
  refine ⟨_, pgs_cons p p' ha, fun G H σ ρ F vs ds Q e hv q => ?_⟩
  cases hv with
  | nil => exact q.elim
  | @cons v vs d ds hd hr =>
    refine ⟨v, vs, rfl, h1 G H σ ρ F v d _ e hd ?_⟩
    replace q : PostG ms2 (ws ++ ws') σ G H F Q ((h d ρ).bind fun r => hs ds r) := q
    cases hh : h d ρ with
    | none => rw [hh] at q; exact q.elim
    | some r =>
      rw [hh] at q
      intro G1 H1 F1 σ1 x1 e1 k1 l1
      refine h2 G1 H1 σ1 r F1 vs ds Q e1 (hr.same x1.same) ?_
      replace q : PostG ms2 (ws ++ ws') σ G H F Q (hs ds r) := q
      cases hh2 : hs ds r with
      | none => rw [hh2] at q; exact q.elim
      | some r2 =>
        rw [hh2] at q
        intro G2 H2 F2 σ2 x2 e2 k2 l2
        refine q G2 H2 F2 σ2 (x1.trans x2) e2 (fun i hi => ?_) (l2.trans l1)
        rw [k2 i fun z => hi (List.mem_append_right _ z), k1 i fun z => hi (List.mem_append_left _ z)]
theorem jg_tup {n k : Nat} (hc : X.calm = true) (h : JGs X ms es ms' ws hs) (hn : (assignEach es X.env).length = n := by rfl) (hst : (assignEach es X.env).findIdx? (·.1) = none := by rfl) : JG X ms (.Tuple es k pos) ms' ws (tTup' n hs) := by
  obtain ⟨g, p, h⟩ := h.run
  refine ⟨_, pg_tup hc p hn hst, fun G H σ ρ F v d Q e hv q => ?_⟩
  unfold tTup' at q
  split at q
  · rename_i ds
    split at q
    · rename_i hl
      obtain ⟨a, xs, rfl, h1, h2⟩ := hv.tup_inv
      exact ⟨a, xs, rfl, sqT_same e.sub h1, by rw [h2.len]; exact hl, h G H σ ρ F xs ds Q e h2 q⟩
    · exact q.elim
  · exact q.elim
end

/-! ### iterators -/
def ItOk (K : Frag) (J : It) (G : Hp) (ds : List D) : Prop := Walk J ds.length (fun H => Same G H) fun i H x H' => ∀ (G1 : Hp) (d : D), Same G G1 → Same G1 H → ds[i]? = some d → ∃ G2, Grow G1 H G2 H' ∧ Dq K G2 x d
theorem itOk_list {K : Frag} {G : Hp} {a : Addr} {xs : List V} {ds : List D} (h : G a = some (.lst xs)) (t : DqAll K G xs ds) : ItOk K (Itl K a) G ds := by
  have w := walk_list (K := K) (a := a) (xs := xs)
  rw [t.len] at w
  refine w.mono (fun H s => .inl (.inl (s _ _ h))) fun i H x H' hi s y G1 d s1 s2 hd => ?_
  obtain ⟨rfl, hx⟩ := y
  obtain ⟨v, hv, q⟩ := t.get hd
  rw [hx] at hv
  cases hv
  exact ⟨G1, Grow.refl s2, q.same s1⟩
theorem itOk_tup {K : Frag} {G : Hp} {a : Addr} {xs : List V} {ds : List D} (h : SqT K G a xs) (t : DqAll K G xs ds) : ItOk K (Itt K a) G ds := by
  have w := walk_tup (K := K) (a := a) (xs := xs)
  rw [t.len] at w
  refine w.mono (fun H s => sqT_same s h) fun i H x H' hi s y G1 d s1 s2 hd => ?_
  obtain ⟨rfl, hx⟩ := y
  obtain ⟨v, hv, q⟩ := t.get hd
  rw [hx] at hv
  cases hv
  exact ⟨G1, Grow.refl s2, q.same s1⟩
def rangeD (lo : Int) (n : Nat) : List D := (List.range n).map fun i => .int (lo + (i : Nat))
theorem itOk_range {K : Frag} {G : Hp} {lo : Int} {n : Nat} : ItOk K (Itr lo n) G (rangeD lo n) := by
  have w := walk_range (lo := lo) (n := n)
  have l : (rangeD lo n).length = n := by simp [rangeD]
  rw [← l] at w
  rw [l] at w
  unfold ItOk
  rw [l]
  refine w.mono (fun H s => True.intro) fun i H x H' hi s y G1 d s1 s2 hd => ?_
  obtain ⟨rfl, rfl⟩ := y
  unfold rangeD at hd
  rw [List.getElem?_map, List.getElem?_range hi] at hd
  cases hd
  exact ⟨G1, Grow.refl s2, .int _⟩
theorem grow_pair {K : Frag} {G1 H : Hp} {T : Addr} {x y : V} {a b : D} (s : Same G1 H) (nT : H T = none) (hx : Dq K G1 x a) (hy : Dq K G1 y b) : ∃ G2, Grow G1 H G2 (upd H T (.tup [x, y])) ∧ Dq K G2 (.ref T) (.tuple [a, b]) :=
  ⟨upd G1 T (.tup [x, y]), Grow.lay s nT, .tup (.inl (.inl upd_same)) (.cons (hx.same (same_up (s.free nT))) (.cons (hy.same (same_up (s.free nT))) .nil))⟩
def enumD (k : Int) (ds : List D) : List D := ds.mapIdx fun i d => .tuple [.int (k + (i : Nat)), d]
def PostI (xi : XI) (E : XK) {K : Frag} (ms : List (Md K)) (σ : L2.St) (G H : Hp) (F : Nat → Fp) (Q : It → Hp → Prop) : R (List D) → Prop
  | .ok ds r => ∀ G' H' F' J, Ext G H (Un F) G' H' (Un F') → EnvOk ms G' H' σ r F' → ItOk K J G' ds → Q J H'
  | .exc c ds r => ∀ G' H' F' cls od, Ext G H (Un F) G' H' (Un F') → EnvOk ms G' H' σ r F' → xi c ds cls od G' → E cls od H'
  | .stuck => False
structure JI (X : Cx) (xi : XI) (E : XK) (ms : List (Md X.K)) (tg e : Expr) (f : Den (List D)) : Prop where
  run : ∃ t : TI, PI X tg e t ∧ ∀ (G H : Hp) (σ : L2.St) (ρ : Rho) (F : Nat → Fp) (Q : It → Hp → Prop), EnvOk ms G H σ ρ F → PostI xi E ms σ G H F Q (f ρ) → t σ H Q
def liftL (x : Option (List D)) (r : Rho) : R (List D) := match x with
  | some ds => .ok ds r
  | none => .stuck
/-- over a value, over arguments -/
def iVal (g : D → Option (List D)) (f : Den D) : Den (List D) := fun ρ => (f ρ).bind fun d r => liftL (g d) r
def iArg (g : List D → Option (List D)) (f : Den (List D)) : Den (List D) := fun ρ => (f ρ).bind fun ds r => liftL (g ds) r
def gLst : D → Option (List D)
  | .list ds => some ds
  | _ => none
def gTpl : D → Option (List D)
  | .tuple ds => some ds
  | _ => none
def gRange1 : List D → Option (List D)
  | [.int n] => if n.natAbs ≤ lim then some (rangeD 0 n.toNat) else none
  | _ => none
def gRange2 : List D → Option (List D)
  | [.int a, .int n] => if a.natAbs ≤ lim ∧ n.natAbs ≤ lim then some (rangeD a (n - a).toNat) else none
  | _ => none
abbrev iLst := iVal gLst
abbrev iTpl := iVal gTpl
abbrev iRange1 := iArg gRange1
abbrev iRange2 := iArg gRange2
section
variable {X : Cx} {xi : XI} {E : XK} {ms : List (Md X.K)} {tg e e2 e3 : Expr} {f : Den D} {fa : Den (List D)} {p pos tpos : Pos}
theorem iVal_run {g : D → Option (List D)} {t : TE} {W : V → Hp → (It → Hp → Prop) → Prop} (h : ∀ (G H : Hp) (σ : L2.St) (ρ : Rho) (F : Nat → Fp) (Q : VK), EnvOk ms G H σ ρ F → PostE xi E ms (mP X.K) σ G H F Q (f ρ) → t σ H Q)
    (hw : ∀ (G H : Hp) (v : V) (d : D) (xs : List D) (Q : It → Hp → Prop), Same G H → Dq X.K G v d → g d = some xs → (∀ J, ItOk X.K J G xs → Q J H) → W v H Q) :
    ∀ (G H : Hp) (σ : L2.St) (ρ : Rho) (F : Nat → Fp) (Q : It → Hp → Prop), EnvOk ms G H σ ρ F → PostI xi E ms σ G H F Q (iVal g f ρ) → t σ H fun v H1 => W v H1 Q := fun G H σ ρ F Q e q => by
  refine h G H σ ρ F _ e ?_
  unfold iVal at q
  cases hf : f ρ with
  | stuck => rw [hf] at q; exact q
  | exc c ds r => rw [hf] at q; exact q
  | ok d r =>
    rw [hf] at q
    intro G' H' F' v T x e' hv _
    replace q : PostI xi E ms σ G H F Q (liftL (g d) r) := q
    cases hx : g d with
    | none => rw [hx] at q; exact q.elim
    | some xs =>
      rw [hx] at q
      exact hw G' H' v d xs Q e'.sub hv.1 hx fun J w => q G' H' F' J (x.weak fun _ z => .inl z) e' w
theorem iArg_run {g : List D → Option (List D)} {ks : List Ok} {t : TA} {W : List V → Hp → (It → Hp → Prop) → Prop} (h : ∀ (G H : Hp) (σ : L2.St) (ρ : Rho) (F : Nat → Fp) (Q : List V → Hp → Prop), EnvOk ms G H σ ρ F → PostA xi E ms ks σ G H F Q (fa ρ) → t σ H Q) (hk : ks.all (·.isNone) = true)
    (hw : ∀ (G H : Hp) (vs : List V) (ds xs : List D) (Q : It → Hp → Prop), Same G H → DqAll X.K G vs ds → g ds = some xs → (∀ J, ItOk X.K J G xs → Q J H) → W vs H Q) :
    ∀ (G H : Hp) (σ : L2.St) (ρ : Rho) (F : Nat → Fp) (Q : It → Hp → Prop), EnvOk ms G H σ ρ F → PostI xi E ms σ G H F Q (iArg g fa ρ) → t σ H fun vs H1 => W vs H1 Q := fun G H σ ρ F Q e q => by
  refine h G H σ ρ F _ e ?_
  unfold iArg at q
  cases hf : fa ρ with
  | stuck => rw [hf] at q; exact q
  | exc c ds r => rw [hf] at q; exact q
  | ok ds r =>
    rw [hf] at q
    intro G' H' F' vs x e' hv
    replace q : PostI xi E ms σ G H F Q (liftL (g ds) r) := q
    cases hx : g ds with
    | none => rw [hx] at q; exact q.elim
    | some xs =>
      rw [hx] at q
      exact hw G' H' vs ds xs Q e'.sub (dqA_all hk hv).1 hx fun J w => q G' H' F' J x e' w
theorem dqAll_one {K : Frag} {G : Hp} {vs : List V} {d : D} (h : DqAll K G vs [d]) : ∃ v, vs = [v] ∧ Dq K G v d := by
  cases h with | cons h t => cases t; exact ⟨_, rfl, h⟩
theorem dqAll_two {K : Frag} {G : Hp} {vs : List V} {d e : D} (h : DqAll K G vs [d, e]) : ∃ v w, vs = [v, w] ∧ Dq K G v d ∧ Dq K G w e := by
  cases h with | cons h t => cases t with | cons h' t => cases t; exact ⟨_, _, rfl, h, h'⟩
theorem ji_lst (h : JE X xi E ms e (mP X.K) f) : JI X xi E ms tg e (iLst f) := by
  obtain ⟨t, p, h⟩ := h.run
  refine ⟨_, pi_list p, iVal_run h fun G H v d xs Q s hv hg q => ?_⟩
  unfold gLst at hg
  split at hg
  · cases hg
    obtain ⟨a, vs, rfl, h1, h2⟩ := hv.lst_inv
    exact ⟨a, rfl, ⟨vs, .inl (.inl (s _ _ h1))⟩, q _ (itOk_list h1 h2)⟩
  · cases hg
theorem ji_tpl (h : JE X xi E ms e (mP X.K) f) : JI X xi E ms tg e (iTpl f) := by
  obtain ⟨t, p, h⟩ := h.run
  refine ⟨_, pi_tup p, iVal_run h fun G H v d xs Q s hv hg q => ?_⟩
  unfold gTpl at hg
  split at hg
  · cases hg
    obtain ⟨a, vs, rfl, h1, h2⟩ := hv.tup_inv
    exact ⟨a, rfl, ⟨vs, sqT_same s h1⟩, q _ (itOk_tup h1 h2)⟩
  · cases hg
theorem ji_range1 (hm : X.mg "range" = none) (h : JA X xi E ms [e] [none] fa) (hg : Gl X "range" := by rfl) (hs : starEach [e] X.env = [(false, eval e X.env)] := by rfl) : JI X xi E ms tg (.Call (.Name "range" p) [e] [] pos) (iRange1 fa) := by
  obtain ⟨t, p, h⟩ := h.run
  refine ⟨_, pi_range1 hg hm p hs, iArg_run h rfl fun G H vs ds xs Q s hv hg q => ?_⟩
  unfold gRange1 at hg
  split at hg
  · rename_i n
    split at hg
    · rename_i hl
      cases hg
      obtain ⟨v, rfl, h1⟩ := dqAll_one hv
      have hl : n.natAbs ≤ 1000000 := hl
      exact ⟨n, by rw [h1.int_inv], by omega, by omega, q _ itOk_range⟩
    · cases hg
  · cases hg
theorem ji_range2 (hm : X.mg "range" = none) (h : JA X xi E ms [e, e2] [none, none] fa) (hg : Gl X "range" := by rfl) (hs : starEach [e, e2] X.env = [(false, eval e X.env), (false, eval e2 X.env)] := by rfl) (hs2 : starEach [e2] X.env = [(false, eval e2 X.env)] := by rfl) :
    JI X xi E ms tg (.Call (.Name "range" p) [e, e2] [] pos) (iRange2 fa) := by
  obtain ⟨t, p, h⟩ := h.run
  refine ⟨_, pi_range2 hg hm p hs hs2, iArg_run h rfl fun G H vs ds xs Q s hv hg q => ?_⟩
  unfold gRange2 at hg
  split at hg
  · rename_i a n
    split at hg
    · rename_i hl
      cases hg
      obtain ⟨v, w, rfl, h1, h2⟩ := dqAll_two hv
      have hl1 : a.natAbs ≤ 1000000 := hl.1
      have hl2 : n.natAbs ≤ 1000000 := hl.2
      exact ⟨a, n, by rw [h1.int_inv, h2.int_inv], by omega, q _ itOk_range⟩
    · cases hg
  · cases hg
end

/-! ### for -/
def forD (tg : Tg) (f : Den Fl) : List D → Den Fl
  | [] => fun ρ => .ok .nx ρ
  | d :: ds => fun ρ => match tg d ρ with
    | some r1 => (f r1).bind fun fl r2 => match fl with
      | .nx => forD tg f ds r2
      | .ret x => .ok (.ret x) r2
    | none => .stuck
def dFor (fi : Den (List D)) (tg : Tg) (f : Den Fl) : Den Fl := fun ρ => (fi ρ).bind fun ds r => forD tg f ds r
section
variable {X : Cx} {xi : XI} {E : XK} {om : Om X.K} {rm : Md X.K} {ms ms1 : List (Md X.K)} {pos : Pos} {tg it : Expr} {body : List Stmt} {fi : Den (List D)} {h : Tg} {f : Den Fl} {ws : List Nat}
theorem js_for (hc : X.calm = true) (hp : PassesOwn (model X.prog X.w) X.A X.env X.xe) (hi : JI X xi E ms tg it fi) (hg : JG X ms tg ms1 ws h) (hb : JSs X xi E om rm ms1 body ms f) (ow : Ow om ms := by first | exact ow0 | exact ow1 rfl | exact ow2 (by decide) rfl rfl)
    (hs : ∀ x, foldedSetIterable it X.env x = pure x := by intro _; rfl) : JS X xi E om rm ms (.For tg it body [] pos) ms (dFor fi h f) := by
  obtain ⟨t, p, hi⟩ := hi.run
  obtain ⟨g, pg, hg⟩ := hg.run
  obtain ⟨tb, pb, hb⟩ := hb.run
  refine ⟨_, ps_for hp hc p pg pb hs, fun G H σ ρ F C e q => hi G H σ ρ F _ e ?_⟩
  unfold dFor at q
  cases hf : fi ρ with
  | stuck => rw [hf] at q; exact q
  | exc c ds r => rw [hf] at q; exact exc_of ow q
  | ok ds r =>
    rw [hf] at q
    intro G1 H1 F1 J x1 e1 w
    refine for_it w (fun i σ H => ∃ G F ρ, EnvOk ms G H σ ρ F ∧ Same G1 G ∧ PostS xi E om rm ms G H F C (forD h f (ds.drop i) ρ)) ⟨G1, F1, r, e1, Same.refl _, PostS.ext x1 q⟩ (fun i σ H _ ⟨G, F, ρ, e, s, _⟩ => s.trans e.sub) (fun i x σ H H' hi' ⟨G, F, ρ, e, s, q⟩ y => ?_) fun σ H ⟨G, F, ρ, e, s, q⟩ => ?_
    · have hd : ds[i]? = some ds[i] := List.getElem?_eq_getElem hi'
      obtain ⟨G2, gr, hx⟩ := y G ds[i] s e.sub hd
      refine hg G2 H' σ ρ F x ds[i] _ (e.grow gr) hx ?_
      rw [List.drop_eq_getElem_cons hi'] at q
      unfold forD at q
      cases ht : h ds[i] ρ with
      | none => rw [ht] at q; exact q.elim
      | some r1 =>
        rw [ht] at q
        intro G3 H3 F3 σ3 x3 e3 _ _
        refine hb G3 H3 σ3 r1 F3 _ e3 ?_
        have xx : Ext G H (Un F) G3 H3 (Un F3) := (gr.ext _).trans x3
        replace q : PostS xi E om rm ms G H F C ((f r1).bind fun fl r2 => match fl with
          | .nx => forD h f (ds.drop (i + 1)) r2
          | .ret x => .ok (.ret x) r2) := q
        cases hf2 : f r1 with
        | stuck => rw [hf2] at q; exact q
        | exc c es r => rw [hf2] at q; exact fun G4 H4 F4 cls od b => q G4 H4 F4 cls od (xx.trans b)
        | ok fl r2 =>
          rw [hf2] at q
          cases fl with
          | ret d => exact fun G4 H4 F4 v T b => q G4 H4 F4 v T (xx.trans b)
          | nx => exact fun G4 H4 F4 σ4 x4 e4 => ⟨G4, F4, r2, e4, s.trans (xx.same.trans x4.same), PostS.ext (xx.trans x4) q⟩
    · rw [List.drop_length] at q
      exact q G H F σ (Ext.refl e.sub) e
end
end Dn


set_option maxHeartbeats 2000000
/-! Dn8: comprehensions, lists changed in place, a call with one fresh list, pairs of names. -/
namespace Dn
open PySem PySem.Spec PyProof.Rows L2

theorem Ext.frame {G H G' H' : Hp} {U U' : Fp} (a : Ext G H U G' H' U') (S : Fp) : Ext G H (fun p => U p ∨ S p) G' H' (fun p => U' p ∨ S p) where
  same := a.same
  sub := a.sub
  gnew p h := (a.gnew p h).imp_right fun z => z.imp_right .inl
  keep p o h u := a.keep p o h fun z => u (.inl z)
  unew p h := by
    rcases h with h | h
    · exact (a.unew p h).imp_left .inl
    · exact .inl (.inr h)
/-- an object apart from the names is written -/
theorem EnvOk.poke {K : Frag} {ms : List (Md K)} {G H : Hp} {σ : L2.St} {ρ : Rho} {F : Nat → Fp} {p : Addr} {o : HO} (e : EnvOk ms G H σ ρ F) (hg : G p = none) (hu : ¬ Un F p) : EnvOk ms G (upd H p o) σ ρ F := by
  refine ⟨fun b x hb => ?_, e.ls, e.lr, fun i m s r a1 a2 a3 => ?_, e.dis, e.off⟩
  · have nb : b ≠ p := fun z => by rw [z, hg] at hb; cases hb
    rw [upd_ne nb]
    exact e.sub b x hb
  · have so := e.at_ i m s r a1 a2 a3
    cases r with
    | none => exact so
    | some d =>
      obtain ⟨v, e1, hv⟩ := so
      refine ⟨v, e1, m.mono hv (Same.refl _) (fun q hq => (m.out hv q hq).1) fun q hq => ?_⟩
      rw [upd_ne fun z => hu ⟨i, by rw [← z]; exact hq⟩]
theorem EnvOk.held {K : Frag} {ms : List (Md K)} {G H : Hp} {σ : L2.St} {ρ : Rho} {F : Nat → Fp} (e : EnvOk ms G H σ ρ F) {p : Addr} (h : Un F p) : G p = none ∧ ∃ o, H p = some o := by
  obtain ⟨i, hp⟩ := h
  have hl : i < ms.length := by
    rcases Nat.lt_or_ge i ms.length with z | z
    · exact z
    · exact (e.off i z p hp).elim
  have so := e.at_ i ms[i] (σ[i]'(by rw [e.ls]; exact hl)) (ρ[i]'(by rw [e.lr]; exact hl)) (List.getElem?_eq_getElem hl) (List.getElem?_eq_getElem _) (List.getElem?_eq_getElem _)
  unfold SlotOk at so
  split at so
  · obtain ⟨v, _, hv⟩ := so
    exact ms[i].out hv p hp
  · exact (so p hp).elim

/-! ### [elt for target in iter if ..] -/
def wipeR (ρ : Rho) : List Nat → Rho
  | [] => ρ
  | v :: vs => (wipeR ρ vs).set v none
/-- the block's names are as they were -/
def backR (ρ r : Rho) : List Nat → Rho
  | [] => r
  | v :: vs => (backR ρ r vs).set v (ρ[v]?).join
def lcD (vs : List Nat) (tg : Tg) (tt : Den Bool) (te : Den D) : List D → List D → Den (List D)
  | [], acc => fun ρ => .ok acc ρ
  | d :: ds, acc => fun ρ => match tg d (wipeR ρ vs) with
    | some r1 => match tt r1 with
      | .ok b r2 => if b = true then match te r2 with
        | .ok y r3 => if acc.length < lim then lcD vs tg tt te ds (acc ++ [y]) r3 else .stuck
        | _ => .stuck
        else lcD vs tg tt te ds acc r2
      | _ => .stuck
    | none => .stuck
def dLc (vs : List Nat) (fi : Den (List D)) (tg : Tg) (tt : Den Bool) (te : Den D) : Den D := fun ρ => (fi ρ).bind fun ds r => (lcD vs tg tt te ds [] r).bind fun ys r2 => .ok (.list ys) (backR r r2 vs)
def dYes : Den Bool := fun ρ => .ok true ρ
structure JTs (X : Cx) (xi : XI) (ms : List (Md X.K)) (ifs : List Expr) (f : Den Bool) : Prop where
  run : ∃ t : TT, PTs X ifs t ∧ ∀ (G H : Hp) (σ : L2.St) (ρ : Rho) (F : Nat → Fp) (Q : Bool → Hp → Prop), EnvOk ms G H σ ρ F → PostT xi L2.E0 ms σ G H F Q (f ρ) → t σ H Q
theorem jts_nil {X : Cx} {xi : XI} {ms : List (Md X.K)} : JTs X xi ms [] dYes := ⟨_, pts_nil, fun G H σ ρ F Q e q => q G H F (Ext.refl e.sub) e⟩
theorem wipe_same {σ σ' : L2.St} (vs : List Nat) (hl : σ'.length = σ.length) (h : ∀ i : Nat, i ∉ vs → σ'[i]? = σ[i]?) : wipe σ' vs = wipe σ vs := by
  apply List.ext_getElem?
  intro i
  by_cases hi : i ∈ vs
  · have key : ∀ (τ : L2.St) (ws : List Nat), i ∈ ws → (wipe τ ws)[i]? = if i < τ.length then some none else none := by
      intro τ ws
      induction ws with
      | nil => intro h; cases h
      | cons w ws ih =>
        intro hw
        show ((wipe τ ws).set w none)[i]? = _
        by_cases z : w = i
        · subst z
          by_cases q : w < τ.length
          · rw [List.getElem?_set_self (by rw [wipe_length]; exact q), if_pos q]
          · rw [if_neg q, List.getElem?_eq_none (by rw [List.length_set, wipe_length]; omega)]
        · rw [List.getElem?_set_ne z]
          rcases List.mem_cons.mp hw with y | y
          · exact absurd y.symm z
          · exact ih y
    rw [key σ' vs hi, key σ vs hi, hl]
  · rw [wipe_out hi, wipe_out hi]
    exact h i hi
theorem wipeR_out {ρ : Rho} {i : Nat} : ∀ {vs : List Nat}, i ∉ vs → (wipeR ρ vs)[i]? = ρ[i]?
  | [], _ => rfl
  | v :: vs, h => by
    show ((wipeR ρ vs).set v none)[i]? = _
    rw [List.getElem?_set_ne fun z => h (by simp [z]), wipeR_out fun z => h (List.mem_cons_of_mem _ z)]
theorem wipeR_len (ρ : Rho) : ∀ vs : List Nat, (wipeR ρ vs).length = ρ.length
  | [] => rfl
  | v :: vs => by
    show ((wipeR ρ vs).set v none).length = _
    rw [List.length_set, wipeR_len ρ vs]
theorem wipeR_in {ρ : Rho} {i : Nat} {x : Option D} : ∀ {vs : List Nat}, i ∈ vs → (wipeR ρ vs)[i]? = some x → x = none
  | v :: vs, h, e => by
    have e : ((wipeR ρ vs).set v none)[i]? = some x := e
    by_cases z : v = i
    · subst z
      by_cases q : v < (wipeR ρ vs).length
      · rw [List.getElem?_set_self q] at e; cases e; rfl
      · rw [List.getElem?_eq_none (by simpa using q)] at e; cases e
    · rw [List.getElem?_set_ne z] at e
      rcases List.mem_cons.mp h with y | y
      · exact absurd y.symm z
      · exact wipeR_in y e
theorem backR_out {ρ r : Rho} {i : Nat} : ∀ {vs : List Nat}, i ∉ vs → (backR ρ r vs)[i]? = r[i]?
  | [], _ => rfl
  | v :: vs, h => by
    show ((backR ρ r vs).set v (ρ[v]?).join)[i]? = _
    rw [List.getElem?_set_ne fun z => h (by simp [z]), backR_out fun z => h (List.mem_cons_of_mem _ z)]
theorem backR_len (ρ r : Rho) : ∀ vs : List Nat, (backR ρ r vs).length = r.length
  | [] => rfl
  | v :: vs => by
    show ((backR ρ r vs).set v (ρ[v]?).join).length = _
    rw [List.length_set, backR_len ρ r vs]
theorem backR_in {ρ r : Rho} {i : Nat} {x : Option D} : ∀ {vs : List Nat}, i ∈ vs → (backR ρ r vs)[i]? = some x → x = (ρ[i]?).join
  | v :: vs, h, e => by
    have e : ((backR ρ r vs).set v (ρ[v]?).join)[i]? = some x := e
    by_cases z : v = i
    · subst z
      by_cases q : v < (backR ρ r vs).length
      · rw [List.getElem?_set_self q] at e; cases e; rfl
      · rw [List.getElem?_eq_none (by simpa using q)] at e; cases e
    · rw [List.getElem?_set_ne z] at e
      rcases List.mem_cons.mp h with y | y
      · exact absurd y.symm z
      · exact backR_in y e
/-- the block's names hold nothing of their own -/
def Plain {K : Frag} (ms : List (Md K)) (vs : List Nat) : Prop := ∀ i ∈ vs, ms[i]? = some (mP K)
theorem EnvOk.plain {K : Frag} {ms : List (Md K)} {G H : Hp} {σ : L2.St} {ρ : Rho} {F : Nat → Fp} (e : EnvOk ms G H σ ρ F) {i : Nat} (hi : ms[i]? = some (mP K)) : ∀ p, ¬ F i p := by
  have hl : i < ms.length := (List.getElem?_eq_some_iff.mp hi).1
  have so := e.at_ i _ (σ[i]'(by rw [e.ls]; exact hl)) (ρ[i]'(by rw [e.lr]; exact hl)) hi (List.getElem?_eq_getElem _) (List.getElem?_eq_getElem _)
  unfold SlotOk at so
  split at so
  · obtain ⟨v, _, hv⟩ := so
    exact hv.2
  · exact so
theorem EnvOk.wipe {K : Frag} {ms : List (Md K)} {G H : Hp} {σ : L2.St} {ρ : Rho} {F : Nat → Fp} (e : EnvOk ms G H σ ρ F) {vs : List Nat} (hp : Plain ms vs) : EnvOk ms G H (L2.wipe σ vs) (wipeR ρ vs) F := by
  refine ⟨e.sub, by rw [wipe_length]; exact e.ls, by rw [wipeR_len]; exact e.lr, fun i m s r a1 a2 a3 => ?_, e.dis, e.off⟩
  by_cases hi : i ∈ vs
  · rw [wipeR_in hi a3]
    exact e.plain (hp i hi)
  · rw [wipeR_out hi] at a3
    rw [wipe_out hi] at a2
    exact e.at_ i m s r a1 a2 a3
/-- behind the block: the names ahead of it, what the block left of the others -/
theorem EnvOk.back {K : Frag} {ms : List (Md K)} {G G2 H H2 : Hp} {σ τ : L2.St} {ρ r : Rho} {F F2 : Nat → Fp} (e : EnvOk ms G H σ ρ F) {vs : List Nat} (hp : Plain ms vs) (e2 : EnvOk ms G2 H2 τ r F2) (s : Same G G2) (hl : ∀ i : Nat, i ∉ vs → τ[i]? = σ[i]?) :
    EnvOk ms G2 H2 σ (backR ρ r vs) F2 := by
  refine ⟨e2.sub, e.ls, by rw [backR_len]; exact e2.lr, fun i m s' r' a1 a2 a3 => ?_, e2.dis, e2.off⟩
  by_cases hi : i ∈ vs
  · have hm := hp i hi
    rw [hm] at a1
    cases a1
    have nf := e2.plain hm
    have hr := backR_in hi a3
    have hlr : i < ρ.length := by rw [e.lr]; exact (List.getElem?_eq_some_iff.mp hm).1
    have h3 : ρ[i]? = some ρ[i] := List.getElem?_eq_getElem hlr
    rw [h3] at hr
    have so := e.at_ i _ s' ρ[i] hm a2 h3
    rw [show r' = ρ[i] from hr]
    cases hd : ρ[i] with
    | none => exact nf
    | some d =>
      rw [hd] at so
      obtain ⟨v, e1, hv⟩ := so
      exact ⟨v, e1, hv.1.same s, nf⟩
  · rw [backR_out hi] at a3
    rw [← hl i hi] at a2
    exact e2.at_ i m s' r' a1 a2 a3
theorem Ext.side {G H G' H' : Hp} {U U' : Fp} {p : Addr} {o : HO} (a : Ext G H U G' H' U') (h : H p = some o) (g : G p = none) (u : ¬ U p) : H' p = some o ∧ G' p = none ∧ ¬ U' p := by
  refine ⟨a.keep p o h u, ?_, fun z => ?_⟩
  · rcases none_or (H := G') p with q | q
    · exact q
    · rcases a.gnew p q with ⟨o', q⟩ | q | q
      · rw [g] at q; cases q
      · rw [h] at q; cases q
      · exact (u q).elim
  · rcases a.unew p z with q | q
    · exact u q
    · rw [h] at q; cases q
/-! the reading that any judgement has -/
def tJE (xi : XI) (E : XK) {K : Frag} (ms : List (Md K)) (m : Md K) (f : Den D) : TE := fun σ H Q => ∃ G ρ F, EnvOk ms G H σ ρ F ∧ PostE xi E ms m σ G H F Q (f ρ)
def tJT (xi : XI) (E : XK) {K : Frag} (ms : List (Md K)) (f : Den Bool) : TT := fun σ H Q => ∃ G ρ F, EnvOk ms G H σ ρ F ∧ PostT xi E ms σ G H F Q (f ρ)
def tJG {K : Frag} (ms ms' : List (Md K)) (ws : List Nat) (h : Tg) : TG := fun v σ H Q => ∃ G ρ F d, EnvOk ms G H σ ρ F ∧ Dq K G v d ∧ PostG ms' ws σ G H F Q (h d ρ)
theorem JE.pe {X : Cx} {xi : XI} {E : XK} {ms : List (Md X.K)} {e : Expr} {m : Md X.K} {f : Den D} (h : JE X xi E ms e m f) : PE X e (tJE xi E ms m f) := by
  obtain ⟨t, p, h⟩ := h.run
  exact ⟨fun pins s σ H Q I ⟨G, ρ, F, e, q⟩ => p.run pins s σ H Q I (h G H σ ρ F Q e q)⟩
theorem JTs.pts {X : Cx} {xi : XI} {ms : List (Md X.K)} {ifs : List Expr} {f : Den Bool} (h : JTs X xi ms ifs f) : PTs X ifs (tJT xi L2.E0 ms f) := by
  obtain ⟨t, p, h⟩ := h.run
  exact ⟨fun pins s σ H Q I ⟨G, ρ, F, e, q⟩ => p.run pins s σ H Q I (h G H σ ρ F Q e q)⟩
theorem JG.pg {X : Cx} {ms ms' : List (Md X.K)} {tg : Expr} {ws : List Nat} {h : Tg} (j : JG X ms tg ms' ws h) : PG X tg (tJG ms ms' ws h) := by
  obtain ⟨t, p, j⟩ := j.run
  exact ⟨fun pins s σ H v u Q I r ⟨G, ρ, F, d, e, hv, q⟩ => p.run pins s σ H v u Q I r (j G H σ ρ F v d Q e hv q)⟩
section
variable {X : Cx} {xi : XI} {E : XK} {ms : List (Md X.K)} {elt tg it : Expr} {ifs : List Expr} {scope : Scope} {own : List (Str × Nat)} {pos : Pos} {fi : Den (List D)} {ht : Tg} {tt : Den Bool} {te : Den D} {ws : List Nat}
/-- the comprehension's own reading, whoever asks for it -/
theorem lc_run {wi : TI} {vs : List Nat} (hi : ∀ (G H : Hp) (σ : L2.St) (ρ : Rho) (F : Nat → Fp) (Q : It → Hp → Prop), EnvOk ms G H σ ρ F → PostI xi E ms σ G H F Q (fi ρ) → wi σ H Q) (hp : Plain ms vs) (hw : ∀ i ∈ ws, i ∈ vs)
    (G0 H0 : Hp) (σ : L2.St) (ρ0 : Rho) (F0 : Nat → Fp) (Q : VK) (e0 : EnvOk ms G0 H0 σ ρ0 F0) (q : PostE xi E ms (mL X.K) σ G0 H0 F0 Q (dLc vs fi ht tt te ρ0)) :
    tLc wi (tJG ms ms ws ht) (tJT xi L2.E0 ms tt) (tJE xi L2.E0 ms (mP X.K) te) vs σ H0 Q := by
  refine hi G0 H0 σ ρ0 F0 _ e0 ?_
  unfold dLc at q
  cases hf : fi ρ0 with
  | stuck => rw [hf] at q; exact q
  | exc c ds r => rw [hf] at q; exact q
  | ok ds r =>
    rw [hf] at q
    intro G1 H1 F1 J x1 e1 w Dl nD
    have wipe2 : ∀ τ : L2.St, τ.length = σ.length → (∀ i : Nat, i ∉ vs → τ[i]? = σ[i]?) → wipe τ vs = wipe σ vs := fun τ h1 h2 => wipe_same vs h1 h2
    refine lc_it w (fun i H => ∃ G ρ τ F acc accD, EnvOk ms G H τ ρ F ∧ τ.length = σ.length ∧ (∀ i : Nat, i ∉ vs → τ[i]? = σ[i]?) ∧ Same G1 G ∧ Ext G1 H1 (Un F1) G H (fun p => Un F p ∨ p = Dl) ∧ H Dl = some (.lst acc) ∧ G Dl = none ∧ ¬ Un F Dl ∧ DqAll X.K G acc accD ∧
      PostE xi E ms (mL X.K) σ G0 H0 F0 Q ((lcD vs ht tt te (ds.drop i) accD ρ).bind fun ys r2 => .ok (.list ys) (backR r r2 vs))) ?_ (fun i H _ ⟨G, ρ, τ, F, acc, accD, e, _, _, s, _⟩ => s.trans e.sub) (fun i x H H' hi' ⟨G, ρ, τ, F, acc, accD, e, l1, l2, s, xx, hD, gD, uD, ha, q⟩ y => ?_) fun H ⟨G, ρ, τ, F, acc, accD, e, l1, l2, s, xx, hD, gD, uD, ha, q⟩ => ?_
    · have gr : Grow G1 H1 G1 (upd H1 Dl (.lst [])) := Grow.own e1.sub nD
      have uD : ¬ Un F1 Dl := fun z => by
        obtain ⟨_, o, ho⟩ := e1.held z
        rw [nD] at ho; cases ho
      refine ⟨G1, r, σ, F1, [], [], e1.grow gr, rfl, fun _ _ => rfl, Same.refl _, ⟨Same.refl _, gr.sub, fun p h => .inl h, fun p o h _ => gr.up p o h, fun p hp => ?_⟩, upd_same, e1.sub.free nD, uD, .nil, q⟩
      rcases hp with hp | hp
      · exact .inl hp
      · exact .inr (by rw [hp]; exact nD)
    · have hd : ds[i]? = some ds[i] := List.getElem?_eq_getElem hi'
      obtain ⟨G2, gr, hx⟩ := y G ds[i] s e.sub hd
      rw [List.drop_eq_getElem_cons hi'] at q
      unfold lcD at q
      have ew := (e.grow gr).wipe hp
      rw [wipe2 τ l1 l2] at ew
      refine ⟨G2, wipeR ρ vs, F, ds[i], ew, hx, ?_⟩
      obtain ⟨hD2, gD2, uD2⟩ := (gr.ext (Un F)).side hD gD uD
      cases ht' : ht ds[i] (wipeR ρ vs) with
      | none => rw [ht'] at q; exact q.elim
      | some r1 =>
        rw [ht'] at q
        intro G3 H3 F3 σ3 x3 e3 k3 l3
        have o3 : ∀ i : Nat, i ∉ vs → σ3[i]? = σ[i]? := fun i hi => by rw [k3 i fun z => hi (hw i z), wipe_out hi]
        have n3 : σ3.length = σ.length := by rw [l3, wipe_length]
        obtain ⟨hD3, gD3, uD3⟩ := x3.side hD2 gD2 uD2
        refine ⟨wipe2 σ3 n3 o3, G3, r1, F3, e3, ?_⟩
        cases htt : tt r1 with
        | stuck => simp only [htt] at q; exact q.elim
        | exc c es r => simp only [htt] at q; exact q.elim
        | ok b r2 =>
          simp only [htt] at q
          intro G4 H4 F4 x4 e4
          obtain ⟨hD4, gD4, uD4⟩ := x4.side hD3 gD3 uD3
          have xs : Ext G1 H1 (Un F1) G4 H4 (fun p => Un F4 p ∨ p = Dl) := ((xx.trans (gr.ext _)).trans (x3.frame (· = Dl))).trans (x4.frame (· = Dl))
          have sm : Same G G4 := gr.same.trans (x3.same.trans x4.same)
          cases b with
          | false =>
            rw [if_neg (by decide)] at q ⊢
            exact ⟨G4, r2, σ3, F4, acc, accD, e4, n3, o3, s.trans sm, xs, hD4, gD4, uD4, ha.same sm, q⟩
          | true =>
            rw [if_pos rfl] at q ⊢
            refine ⟨G4, r2, F4, e4, ?_⟩
            cases hte : te r2 with
            | stuck => simp only [hte] at q; exact q.elim
            | exc c es r => simp only [hte] at q; exact q.elim
            | ok y r3 =>
              simp only [hte] at q
              intro G5 H5 F5 v T x5 e5 hv dis
              have x5 := x5.weak (V' := Un F5) fun _ z => .inl z
              obtain ⟨hD5, gD5, uD5⟩ := x5.side hD4 gD4 uD4
              split at q
              · rename_i hlim
                have la := ha.len
                refine ⟨acc, hD5, by rw [la]; exact Nat.lt_of_lt_of_le hlim (by decide), G5, r3, σ3, F5, acc ++ [v], accD ++ [y], e5.poke gD5 uD5, n3, o3, s.trans (sm.trans x5.same), ?_, upd_same, gD5, uD5, (ha.same (sm.trans x5.same)).app (.cons hv.1 .nil), q⟩
                have xs2 := xs.trans (x5.frame (· = Dl))
                refine ⟨xs2.same, (e5.poke gD5 uD5 : EnvOk ms G5 (upd H5 Dl (.lst (acc ++ [v]))) σ3 r3 F5).sub, xs2.gnew, fun p o h u => ?_, xs2.unew⟩
                have np : p ≠ Dl := fun z => by rw [z, nD] at h; cases h
                rw [upd_ne np]
                exact xs2.keep p o h u
              · exact q.elim
    · rw [List.drop_length] at q
      unfold lcD at q
      refine q G H F (.ref Dl) (· = Dl) (x1.trans xx) (e1.back hp e s fun i hi => l2 i hi) ⟨Dl, acc, accD, rfl, rfl, hD, gD, ha, fun p => Iff.rfl⟩ fun p hp u => ?_
      rw [show p = Dl from hp] at u
      exact uD u
theorem je_lc {k : Nat} (c : Cfg X E k) (hi : JI X xi E ms tg it fi) (ok : blkC X.N X.env.scope scope own = true) (hp : Plain ms (own.map (·.2))) (hw : ∀ i ∈ ws, i ∈ own.map (·.2))
    (hg : ∀ (s : Shared) (H : Hp) (C : Addr) (cl : List (Str × Addr)) (fp : List Addr), JG (X.blk s H scope (compEnvC scope cl C X.env) fp) ms tg ms ws ht)
    (htt : ∀ (s : Shared) (H : Hp) (C : Addr) (cl : List (Str × Addr)) (fp : List Addr), JTs (X.blk s H scope (compEnvC scope cl C X.env) fp) xi ms ifs tt)
    (he : ∀ (s : Shared) (H : Hp) (C : Addr) (cl : List (Str × Addr)) (fp : List Addr), JE (X.blk s H scope (compEnvC scope cl C X.env) fp) xi L2.E0 ms elt (mP X.K) te) (hs : ∀ x, foldedSetIterable it X.env x = pure x := by intro _; rfl) :
    JE X xi E ms (.ListComp elt [⟨tg, it, ifs, 0⟩] scope pos) (mL X.K) (dLc (own.map (·.2)) fi ht tt te) := by
  obtain ⟨wi, pi, hi⟩ := hi.run
  exact ⟨_, pe_lc c.calm c.nd pi (blkOk_by ok) (fun s H C cl fp => (hg s H C cl fp).pg) (fun s H C cl fp => (htt s H C cl fp).pts) (fun s H C cl fp => (he s H C cl fp).pe) hs, fun G H σ ρ F Q e q => lc_run hi hp hw G H σ ρ F Q e q⟩
/-- name = [..] on one line -/
theorem js_setLc {k : Nat} {om : Om X.K} {rm : Md X.K} {i : Nat} {y : Str} {py spos : Pos} (c : Cfg X E k) (hi : JI X xi E ms tg it fi) (ok : blkC X.N X.env.scope scope own = true) (hp : Plain ms (own.map (·.2))) (hw : ∀ i ∈ ws, i ∈ own.map (·.2))
    (hg : ∀ (s : Shared) (H : Hp) (C : Addr) (cl : List (Str × Addr)) (fp : List Addr), JG (X.blk s H scope (compEnvC scope cl C X.env) fp) ms tg ms ws ht)
    (htt : ∀ (s : Shared) (H : Hp) (C : Addr) (cl : List (Str × Addr)) (fp : List Addr), JTs (X.blk s H scope (compEnvC scope cl C X.env) fp) xi ms ifs tt)
    (he : ∀ (s : Shared) (H : Hp) (C : Addr) (cl : List (Str × Addr)) (fp : List Addr), JE (X.blk s H scope (compEnvC scope cl C X.env) fp) xi L2.E0 ms elt (mP X.K) te)
    (hsw : swapsWith (.ListComp elt [⟨tg, it, ifs, 0⟩] scope pos) (some (.Name y py)) spos.line X.env = pure true)
    (hy : X.N[i]? = some y := by rfl) (hyl : X.env.scope.names.lookup y = some .local := by rfl) (hil : (ms[i]?).isSome = true := by rfl) (ow : Ow om ms := by first | exact ow0 | exact ow1 rfl | exact ow2 (by decide) rfl rfl)
    (hs : ∀ x, foldedSetIterable it X.env x = pure x := by intro _; rfl) :
    JS X xi E om rm ms (.Assign [.Name y py] (.ListComp elt [⟨tg, it, ifs, 0⟩] scope pos) spos) (ms.set i (mL X.K)) (dSet i (dLc (own.map (·.2)) fi ht tt te)) := by
  obtain ⟨wi, pi, hi⟩ := hi.run
  refine ⟨_, ps_setLc c.calm c.nd hy hyl hsw pi (blkOk_by ok) (fun s H C cl fp => (hg s H C cl fp).pg) (fun s H C cl fp => (htt s H C cl fp).pts) (fun s H C cl fp => (he s H C cl fp).pe) hs, fun G H σ ρ F C e q => lc_run hi hp hw G H σ ρ F _ e ?_⟩
  unfold dSet at q
  cases hf : dLc (own.map (·.2)) fi ht tt te ρ with
  | stuck => rw [hf] at q; exact q
  | exc c ds r => rw [hf] at q; exact exc_of ow q
  | ok d r =>
    rw [hf] at q
    intro G' H' F' v T x e' hv dis
    exact q G' H' _ _ (x.weak fun p hp => un_put hp) (e'.put i (lt_some hil) hv dis)
end
theorem passE0 {X : Cx} : Passes (L2.CX X.prog X.w) X L2.E0 := fun _ _ _ _ _ _ _ ⟨_, _, _, _, _, _, _, _, _, _, _, _, h⟩ => h.elim
/-- within a block -/
theorem Cfg.blk {X : Cx} {E : XK} {k : Nat} (c : Cfg X E k) {s : Shared} {H : Hp} {scope : Scope} {cenv : Env} {fp : List Addr} : Cfg (X.blk s H scope cenv fp) L2.E0 k := ⟨c.calm, c.nd, passE0, c.room⟩

/-! ### lists changed in place -/
section
variable {X : Cx} {xi : XI} {E : XK} {om : Om X.K} {rm : Md X.K} {ms : List (Md X.K)} {pos : Pos} {e : Expr} {fe fi : Den D}
/-- a mode under which a name's list may be changed -/
def LOwn {K : Frag} (m : Md K) : Prop := ∀ G H v d S, m.P G H v d S → ∃ a vs ds, v = .ref a ∧ d = .list ds ∧ H a = some (.lst vs) ∧ G a = none ∧ DqAll K G vs ds ∧ (∀ p, S p ↔ p = a) ∧
  ∀ ws es, DqAll K G ws es → m.P G (upd H a (.lst ws)) v (.list es) S
theorem lo_L {K : Frag} : LOwn (mL K) := fun G H v d S h => by
  obtain ⟨a, vs, ds, h1, h2, h3, h4, h5, h6⟩ := h
  exact ⟨a, vs, ds, h1, h2, h3, h4, h5, h6, fun ws es q => ⟨a, ws, es, h1, rfl, upd_same, h4, q, h6⟩⟩
theorem lo_At {K : Frag} {v0 : V} : LOwn (mAt v0 (mL K)) := fun G H v d S h => by
  obtain ⟨a, vs, ds, h1, h2, h3, h4, h5, h6, h7⟩ := lo_L G H v d S h.2
  exact ⟨a, vs, ds, h1, h2, h3, h4, h5, h6, fun ws es q => ⟨h.1, h7 ws es q⟩⟩
/-- the list at slot i becomes another -/
theorem EnvOk.relist {K : Frag} {ms : List (Md K)} {G H : Hp} {σ : L2.St} {ρ : Rho} {F : Nat → Fp} (e : EnvOk ms G H σ ρ F) {i : Nat} {m : Md K} {d : D} (lo : LOwn m) (hm : ms[i]? = some m) (hd : ρ[i]? = some (some d)) :
    ∃ a vs ds, σ[i]? = some (some (.ref a)) ∧ d = .list ds ∧ H a = some (.lst vs) ∧ DqAll K G vs ds ∧ ∀ ws es, DqAll K G ws es → EnvOk ms G (upd H a (.lst ws)) σ (ρ.set i (some (.list es))) F ∧ Ext G H (Un F) G (upd H a (.lst ws)) (Un F) := by
  obtain ⟨v, h1, h2⟩ := e.get hm hd
  obtain ⟨a, vs, ds, rfl, rfl, h3, h4, h5, h6, h7⟩ := lo _ _ _ _ _ h2
  have hl : i < ms.length := (List.getElem?_eq_some_iff.mp hm).1
  have hsub : ∀ ws, Same G (upd H a (.lst ws)) := fun ws b x hb => by
    have nb : b ≠ a := fun z => by rw [z, h4] at hb; cases hb
    rw [upd_ne nb]
    exact e.sub b x hb
  refine ⟨a, vs, ds, h1, rfl, h3, h5, fun ws es hq => ⟨⟨hsub ws, e.ls, by rw [List.length_set]; exact e.lr, fun j m' s r a1 a2 a3 => ?_, e.dis, e.off⟩, ⟨Same.refl _, hsub ws, fun p h => .inl h, fun p o h u => ?_, fun p h => .inl h⟩⟩⟩
  · by_cases z : j = i
    · subst z
      rw [hm] at a1; cases a1
      rw [h1] at a2; cases a2
      rw [List.getElem?_set_self (by rw [e.lr]; exact hl)] at a3; cases a3
      exact ⟨_, rfl, h7 ws es hq⟩
    · rw [List.getElem?_set_ne (Ne.symm z)] at a3
      have so := e.at_ j m' s r a1 a2 a3
      cases r with
      | none => exact so
      | some d =>
        obtain ⟨v, e1, hv⟩ := so
        refine ⟨v, e1, m'.mono hv (Same.refl _) (fun q hq => (m'.out hv q hq).1) fun q hq => ?_⟩
        rw [upd_ne fun y => z (e.dis _ _ q hq (by rw [h6]; exact y))]
  · have np : p ≠ a := fun z => u ⟨i, (h6 p).2 z⟩
    rw [upd_ne np]
    exact h
def gSetIx : D → D → D → Option D
  | .list ds, .int k, d => match ixN ds.length k with
    | some j => some (.list (ds.set j d))
    | none => none
  | _, _, _ => none
/-- the list at slot i, by a function of it -/
def atL (i : Nat) (g : D → Option D) (r : Rho) : R Fl := match r[i]? with
  | some (some l) => match g l with
    | some l' => .ok .nx (r.set i (some l'))
    | none => .stuck
  | _ => .stuck
/-- x[k] = e, x a list of one's own -/
def dSetIx (i : Nat) (fk fe : Den D) : Den Fl := fun ρ => (fe ρ).bind fun d r => (dSlot i r).bind fun _ r' => (fk r').bind fun k r1 => atL i (fun l => gSetIx l k d) r1
theorem dSlot_inv {i : Nat} {r r' : Rho} {d : D} (h : dSlot i r = .ok d r') : r' = r ∧ ∃ l, r[i]? = some (some l) := by
  unfold dSlot at h
  split at h
  · rename_i l hl
    cases h
    exact ⟨rfl, l, hl⟩
  · cases h
theorem js_setIx (i : Nat) {m : Md X.K} {k : Expr} {x : Str} {px p2 : Pos} {fk : Den D} (he : JE X xi E ms e (mP X.K) fe) (hk : JE X xi E ms k (mP X.K) fk) (lo : LOwn m) (hm : ms[i]? = some m := by rfl) (hN : X.N[i]? = some x := by rfl) (ow : Ow om ms := by first | exact ow0 | exact ow1 rfl | exact ow2 (by decide) rfl rfl)
    (hv : Vis X.env.scope x := by first | exact Or.inl rfl | exact Or.inr (Or.inl rfl) | exact Or.inr (Or.inr rfl)) (hd : (x == ("__debug__" : Str)) = false := by decide) (hcd : (x == ("__classdict__" : Str)) = false := by decide)
    (ha : ∀ v, assign (.Subscript (.Name x px) k p2) X.env v = (do
      let ov ← holding [v] (eval (.Name x px) X.env)
      let iv ← holding [v, ov] (eval k X.env)
      standAt p2
      holding [v, ov, iv] (setItem ov iv v)
      release [v, ov, iv] []) := by intro _; rfl)
    (hs : swapsWithSole [.Subscript (.Name x px) k p2] e pos.line X.env = pure false := by rfl) (hw : swappedStores [.Subscript (.Name x px) k p2] e X.env = pure none := by rfl)
    (h1 : (assignEach [.Subscript (.Name x px) k p2] X.env).map (·.2) = [assign (.Subscript (.Name x px) k p2) X.env] := by rfl) :
    JS X xi E om rm ms (.Assign [.Subscript (.Name x px) k p2] e pos) ms (dSetIx i fk fe) := by
  obtain ⟨t, p, he⟩ := he.run
  obtain ⟨t2, pk, hk⟩ := hk.run
  refine ⟨_, ps_asg p (pg_sub (pe_var hN hv hd hcd) pk set_list ha) hs hw h1, fun G H σ ρ F C e q => he G H σ ρ F _ e ?_⟩
  unfold dSetIx at q
  cases hf : fe ρ with
  | stuck => rw [hf] at q; exact q
  | exc c ds r => rw [hf] at q; exact exc_of ow q
  | ok d r =>
    rw [hf] at q
    intro G1 H1 F1 v T x1 e1 hv dis
    have x1 := x1.weak (V' := Un F1) fun _ z => .inl z
    replace q : PostS xi E om rm ms G H F C ((dSlot i r).bind fun _ r' => (fk r').bind fun k r1 => atL i (fun l => gSetIx l k d) r1) := q
    cases hsl : dSlot i r with
    | stuck => rw [hsl] at q; exact q.elim
    | exc c ds r => unfold dSlot at hsl; split at hsl <;> cases hsl
    | ok d' r' =>
      rw [hsl] at q
      obtain ⟨e2, l, hl⟩ := dSlot_inv hsl
      rw [e2] at q
      obtain ⟨vo, ho, _⟩ := e1.get hm hl
      refine ⟨vo, ho, hk G1 H1 σ r F1 _ e1 ?_⟩
      replace q : PostS xi E om rm ms G H F C ((fk r).bind fun k r1 => atL i (fun l => gSetIx l k d) r1) := q
      cases hk2 : fk r with
      | stuck => rw [hk2] at q; exact q.elim
      | exc c ds r2 =>
        rw [hk2] at q
        exact exc_of ow fun G' H' F' cls od x => q G' H' F' cls od (x1.trans x)
      | ok kd r2 =>
        rw [hk2] at q
        intro G2 H2 F2 kv T2 x2 e2 hk3 _
        have x2 := x2.weak (V' := Un F2) fun _ z => .inl z
        replace q : PostS xi E om rm ms G H F C (atL i (fun l => gSetIx l kd d) r2) := q
        unfold atL at q
        split at q
        · rename_i l2 hl2
          obtain ⟨a, vs, ds, h3, rfl, h5, h6, h7⟩ := e2.relist lo hm hl2
          rw [ho] at h3
          cases h3
          cases hg : gSetIx (.list ds) kd d with
          | none => simp only [hg] at q; exact q.elim
          | some l' =>
            simp only [hg] at q
            cases kd with
            | int k' =>
              have hg : (match ixN ds.length k' with
                | some j => some (PyData.list (ds.set j d))
                | none => none) = some l' := hg
              split at hg
              · rename_i j hj
                cases hg
                obtain ⟨e3, x3⟩ := h7 (vs.set j v) (ds.set j d) (h6.set (hv.1.same x2.same))
                exact ⟨a, vs, k', j, rfl, hk3.1.int_inv, h5, by rw [h6.len]; exact hj, q G2 _ F2 σ ((x1.trans x2).trans x3) e3⟩
              · cases hg
            | _ => cases hg
        · exact q.elim
/-- x.append(e) -/
def gApp : D → D → Option D
  | .list ds, d => if ds.length < lim then some (.list (ds ++ [d])) else none
  | _, _ => none
def dApp (i : Nat) (fe : Den D) : Den Fl := fun ρ => (dSlot i ρ).bind fun _ r => (fe r).bind fun d r1 => atL i (fun l => gApp l d) r1
theorem js_append (i : Nat) {m : Md X.K} {x : Str} {px apos pos2 : Pos} (he : JE X xi E ms e (mP X.K) fe) (lo : LOwn m) (hm : ms[i]? = some m := by rfl) (hN : X.N[i]? = some x := by rfl) (ow : Ow om ms := by first | exact ow0 | exact ow1 rfl | exact ow2 (by decide) rfl rfl)
    (hv : Vis X.env.scope x := by first | exact Or.inl rfl | exact Or.inr (Or.inl rfl) | exact Or.inr (Or.inr rfl)) (hd : (x == ("__debug__" : Str)) = false := by decide) (hcd : (x == ("__classdict__" : Str)) = false := by decide)
    (hbase : attributeBase (.Name x px) "append" X.env (eval (.Name x px) X.env) = eval (.Name x px) X.env := by rfl)
    (hfew : ((backTo pos2 (starEach [e] X.env)).all (fun x => !x.1) && (backToKw pos2 (keywordEach [] X.env)).all (fun x => x.1.isSome)
      && decide (([e] : List Expr).length + ([] : List Keyword).length + (if ([] : List Keyword).isEmpty then 0 else 1) < 30)) = true := by rfl)
    (hline : (apos.endLine == pos2.line) = true := by rfl) (hs : starEach [e] X.env = (false, eval e X.env) :: starEach [] X.env := by rfl) (hplain : (backTo pos2 (starEach [] X.env)).any (·.1) = false := by rfl)
    (hsw : swapsWith (.Call (.Attribute (.Name x px) "append" apos) [e] [] pos2) none pos.line X.env = pure false := by rfl) :
    JS X xi E om rm ms (.Expr (.Call (.Attribute (.Name x px) "append" apos) [e] [] pos2) pos) ms (dApp i fe) := by
  obtain ⟨t, p, he⟩ := he.run
  refine ⟨_, ps_expr (pe_bm PySem.F.plainAttrs_list PySem.F.slot_list_append PySem.F.type_list_append mt_append (pe_var hN hv hd hcd) (pa_cons p pa_nil hs) hbase hfew hline hs hplain) hsw, fun G H σ ρ F C e q => ?_⟩
  unfold dApp at q
  cases hsl : dSlot i ρ with
  | stuck => rw [hsl] at q; exact q.elim
  | exc c ds r => unfold dSlot at hsl; split at hsl <;> cases hsl
  | ok d' r' =>
    rw [hsl] at q
    obtain ⟨e2, l, hl⟩ := dSlot_inv hsl
    rw [e2] at q
    obtain ⟨a0, vs0, ds0, ho, _, h50, _, _⟩ := e.relist lo hm hl
    refine ⟨.ref a0, ho, .inl ⟨rfl, vs0, .inl (.inl h50)⟩, he G H σ ρ F _ e ?_⟩
    replace q : PostS xi E om rm ms G H F C ((fe ρ).bind fun d r1 => atL i (fun l => gApp l d) r1) := q
    cases hf : fe ρ with
    | stuck => rw [hf] at q; exact q
    | exc c ds r => rw [hf] at q; exact exc_of ow q
    | ok d r =>
      rw [hf] at q
      intro G1 H1 F1 v T x1 e1 hv dis
      have x1 := x1.weak (V' := Un F1) fun _ z => .inl z
      replace q : PostS xi E om rm ms G H F C (atL i (fun l => gApp l d) r) := q
      unfold atL at q
      split at q
      · rename_i l2 hl2
        obtain ⟨a, vs, ds, h3, rfl, h5, h6, h7⟩ := e1.relist lo hm hl2
        rw [ho] at h3
        cases h3
        cases hg : gApp (.list ds) d with
        | none => simp only [hg] at q; exact q.elim
        | some l' =>
          simp only [hg] at q
          have hg : (if ds.length < lim then some (PyData.list (ds ++ [d])) else none) = some l' := hg
          split at hg
          · rename_i hlim
            cases hg
            obtain ⟨e3, x3⟩ := h7 (vs ++ [v]) (ds ++ [d]) (h6.app (.cons hv.1 .nil))
            exact ⟨a0, vs, v, rfl, rfl, h5, by rw [h6.len]; exact Nat.lt_of_lt_of_le hlim (by decide), q G1 _ F1 σ (x1.trans x3) e3⟩
          · cases hg
      · exact q.elim
end

/-! ### f(e), e a list just made, one's own -/
end Dn


set_option maxHeartbeats 2000000
/-! Dn9: the script, unpacked lists, two names at once, code that is never reached, the law's end. -/
namespace Dn
open PySem PySem.Spec PyProof.Rows L2
section
variable {X : Cx} {xi : XI} {E : XK} {om : Om X.K} {rm : Md X.K} {ms ms' ms2 : List (Md X.K)} {pos p1 p2 : Pos} {e a b : Expr} {st : Stmt} {sts : List Stmt} {es : List Expr} {ws : List Nat} {hs : List D → Rho → Option Rho} {fe f g : Den D}
/-! ### the script -/
theorem EnvOk.script {K : Frag} {ms : List (Md K)} {G H : Hp} {σ : L2.St} {ρ : Rho} {F : Nat → Fp} (e : EnvOk ms G H σ ρ F) {i : Nat} {d : D} (hm : ms[i]? = some (mS K)) (hd : ρ[i]? = some (some d)) :
    ∃ a vs ds, σ[i]? = some (some (.ref a)) ∧ d = .list ds ∧ SqL K H a vs ∧ DqAll K G vs ds := by
  obtain ⟨v, h1, ⟨a, vs, ds, rfl, rfl, h2, h3⟩, _⟩ := e.get hm hd
  exact ⟨a, vs, ds, h1, rfl, e.sub.seq h2, h3⟩
def dLenS (i : Nat) : Den D := fun ρ => match ρ[i]? with
  | some (some d) => lift (gLen [d]) ρ
  | _ => .stuck
theorem je_lenS (i : Nat) {x : Str} (hl : X.mg "len" = none) (hm : ms[i]? = some (mS X.K) := by rfl) (hN : X.N[i]? = some x := by rfl) (hg : Gl X "len" := by rfl) (hv : Vis X.env.scope x := by first | exact Or.inl rfl | exact Or.inr (Or.inl rfl) | exact Or.inr (Or.inr rfl)) (hd : (x == ("__debug__" : Str)) = false := by decide) (hcd : (x == ("__classdict__" : Str)) = false := by decide)
    (he : starEach [.Name x p1] X.env = (false, eval (.Name x p1) X.env) :: starEach [] X.env := by rfl) (hpl : (backTo pos (starEach [] X.env)).any (·.1) = false := by rfl) :
    JE X xi E ms (.Call (.Name "len" p2) [.Name x p1] [] pos) (mP X.K) (dLenS i) := by
  refine ⟨_, pe_callB call_len_seq hg hl PySem.boot_len (pa_cons (pe_var hN hv hd hcd) pa_nil he) (by decide) (by decide) he hpl, fun G H σ ρ F Q e q => ?_⟩
  unfold dLenS at q
  split at q
  · rename_i d hd
    obtain ⟨a, vs, ds, h1, rfl, h2, h3⟩ := e.script hm hd
    exact ⟨_, h1, a, vs, rfl, .inl h2, by rw [h3.len]; exact q G H F (.int ds.length) (fun _ => False) (Un.ext e.sub fun _ z => z) e ⟨.int _, fun _ z => z⟩ fun _ z => z.elim⟩
  · exact q.elim
def dIxS (i : Nat) (f : Den D) : Den D := fun ρ => (dSlot i ρ).bind fun _ r => (f r).bind fun k r1 => match r1[i]? with
  | some (some d) => lift (gIx d k) r1
  | _ => .stuck
theorem je_ixS (i : Nat) {x : Str} (h : JE X xi E ms b (mP X.K) f) (hm : ms[i]? = some (mS X.K) := by rfl) (hN : X.N[i]? = some x := by rfl) (hv : Vis X.env.scope x := by first | exact Or.inl rfl | exact Or.inr (Or.inl rfl) | exact Or.inr (Or.inr rfl)) (hd : (x == ("__debug__" : Str)) = false := by decide) (hcd : (x == ("__classdict__" : Str)) = false := by decide) (hs : PlainIx b := by exact fun _ _ => rfl) :
    JE X xi E ms (.Subscript (.Name x p1) b pos) (mP X.K) (dIxS i f) := by
  obtain ⟨t, p, h⟩ := h.run
  refine ⟨_, pe_ix ix_list (pe_var hN hv hd hcd) p hs, fun G H σ ρ F Q e q => ?_⟩
  unfold dIxS at q
  cases hsl : dSlot i ρ with
  | stuck => rw [hsl] at q; exact q.elim
  | exc c ds r => unfold dSlot at hsl; split at hsl <;> cases hsl
  | ok d' r' =>
    rw [hsl] at q
    obtain ⟨e2, l, hl⟩ := dSlot_inv hsl
    rw [e2] at q
    obtain ⟨v0, h0, _⟩ := e.get hm hl
    refine ⟨v0, h0, h G H σ ρ F _ e ?_⟩
    replace q : PostE xi E ms (mP X.K) σ G H F Q ((f ρ).bind fun k r1 => match r1[i]? with
      | some (some d) => lift (gIx d k) r1
      | _ => .stuck) := q
    cases hf : f ρ with
    | stuck => rw [hf] at q; exact q.elim
    | exc c ds r => rw [hf] at q; exact q
    | ok k r =>
      rw [hf] at q
      intro G1 H1 F1 v T x1 e1 hk _
      have x1 := x1.weak (V' := Un F1) fun _ z => .inl z
      replace q : PostE xi E ms (mP X.K) σ G H F Q (match r[i]? with
        | some (some d) => lift (gIx d k) r
        | _ => .stuck) := q
      split at q
      · rename_i d hd
        obtain ⟨a, vs, ds, h1, rfl, h2, h3⟩ := e1.script hm hd
        rw [h0] at h1
        cases h1
        cases k with
        | int j =>
          cases ha : atI ds j with
          | none =>
            have : gIx (.list ds) (.int j) = none := ha
            rw [this] at q; exact q.elim
          | some y =>
            have : gIx (.list ds) (.int j) = some y := ha
            rw [this] at q
            obtain ⟨z, h4, h5⟩ := at_get h3 ha
            exact ⟨a, vs, j, z, rfl, hk.1.int_inv, h2, h4, q G1 H1 F1 z (fun _ => False) (x1.weak fun _ z => z.elim id fun z => z.elim) e1 ⟨h5, fun _ z => z⟩ fun _ z => z.elim⟩
        | _ => exact q.elim
      · exact q.elim

/-! ### a, b, .. = a list of that length -/
def tLst' (n : Nat) (hs : List D → Rho → Option Rho) : Tg := fun d ρ => match d with
  | .list ds => if ds.length = n then hs ds ρ else none
  | _ => none
theorem jg_lst {n k : Nat} (hc : X.calm = true) (h : JGs X ms es ms' ws hs) (hn : (assignEach es X.env).length = n := by rfl) (hst : (assignEach es X.env).findIdx? (·.1) = none := by rfl) : JG X ms (.Tuple es k pos) ms' ws (tLst' n hs) := by
  obtain ⟨g, p, h⟩ := h.run
  refine ⟨_, pg_lst hc p hn hst, fun G H σ ρ F v d Q e hv q => ?_⟩
  unfold tLst' at q
  split at q
  · rename_i ds
    split at q
    · rename_i hl
      obtain ⟨a, xs, rfl, h1, h2⟩ := hv.lst_inv
      exact ⟨a, xs, rfl, .inl (.inl (e.sub _ _ h1)), by rw [h2.len]; exact hl, h G H σ ρ F xs ds Q e h2 q⟩
    · exact q.elim
  · exact q.elim
/-- target = e, by a target of several names -/
def dAsg (tg : Tg) (f : Den D) : Den Fl := fun ρ => (f ρ).bind fun d r => match tg d r with
  | some r' => .ok .nx r'
  | none => .stuck
theorem js_asg {tg : Expr} {h : Tg} (he : JE X xi E ms e (mP X.K) fe) (hg : JG X ms tg ms' ws h) (ow : Ow om ms := by first | exact ow0 | exact ow1 rfl | exact ow2 (by decide) rfl rfl)
    (hs : swapsWithSole [tg] e pos.line X.env = pure false := by rfl) (hw : swappedStores [tg] e X.env = pure none := by rfl) (h1 : (assignEach [tg] X.env).map (·.2) = [assign tg X.env] := by rfl) :
    JS X xi E om rm ms (.Assign [tg] e pos) ms' (dAsg h fe) := by
  obtain ⟨t, p, he⟩ := he.run
  obtain ⟨g, pg, hg⟩ := hg.run
  refine ⟨_, ps_asg p pg hs hw h1, fun G H σ ρ F C e q => he G H σ ρ F _ e ?_⟩
  unfold dAsg at q
  cases hf : fe ρ with
  | stuck => rw [hf] at q; exact q
  | exc c ds r => rw [hf] at q; exact exc_of ow q
  | ok d r =>
    rw [hf] at q
    intro G1 H1 F1 v T x1 e1 hv _
    refine hg G1 H1 σ r F1 v d _ e1 hv.1 ?_
    replace q : PostS xi E om rm ms' G H F C (match h d r with
      | some r' => .ok .nx r'
      | none => .stuck) := q
    cases hh : h d r with
    | none => rw [hh] at q; exact q.elim
    | some r' =>
      rw [hh] at q
      exact fun G2 H2 F2 σ2 x2 e2 _ _ => q G2 H2 F2 σ2 ((x1.weak fun _ z => .inl z).trans x2) e2
/-- a, b = x, y (plain local names) -/
def dPar (i j : Nat) (f g : Den D) : Den Fl := fun ρ => (f ρ).bind fun d r => (g r).bind fun d' r2 => .ok .nx ((r2.set i (some d)).set j (some d'))
theorem js_par (i j : Nat) {m m' : Md X.K} {x y : Str} {px py pt : Pos} {kt k2 pt2} (hc : X.calm = true) (nd : X.N.Nodup) (ha : JE X xi E ms a m f) (hb : JE X xi E ms b m' g) (hi : X.N[i]? = some x := by rfl) (hj : X.N[j]? = some y := by rfl) (hij : i ≠ j := by decide) (li : (ms[i]?).isSome = true := by rfl) (lj : (ms[j]?).isSome = true := by rfl)
    (hx : X.env.scope.names.lookup x = some .local := by rfl) (hy : X.env.scope.names.lookup y = some .local := by rfl) (ow : Ow om ms := by first | exact ow0 | exact ow1 rfl | exact ow2 (by decide) rfl rfl)
    (sa : starEach [a, b] X.env = (false, eval a X.env) :: starEach [b] X.env := by rfl) (sb : starEach [b] X.env = (false, eval b X.env) :: starEach [] X.env := by rfl)
    (hw : swappedStores [.Tuple [.Name x px, .Name y py] kt pt] (.Tuple [a, b] k2 pt2) X.env = pure (some [x, y]) := by rfl)
    (hs : swapsWithSole [.Tuple [.Name x px, .Name y py] kt pt] (.Tuple [a, b] k2 pt2) pos.line X.env = pure false := by rfl) :
    JS X xi E om rm ms (.Assign [.Tuple [.Name x px, .Name y py] kt pt] (.Tuple [a, b] k2 pt2) pos) ((ms.set i m).set j m') (dPar i j f g) := by
  obtain ⟨t, p, ha⟩ := ha.run
  obtain ⟨t', p', hb⟩ := hb.run
  refine ⟨_, ps_par hc nd hi hj hij hx hy (pa_cons p (pa_cons p' pa_nil sb) sa) hw hs, fun G H σ ρ F C e q => ha G H σ ρ F _ e ?_⟩
  unfold dPar at q
  cases hf : f ρ with
  | stuck => rw [hf] at q; exact q
  | exc c ds r => rw [hf] at q; exact exc_of ow q
  | ok d r =>
    rw [hf] at q
    intro G1 H1 F1 v T x1 e1 hv d1
    refine hb G1 H1 σ r F1 _ e1 ?_
    replace q : PostS xi E om rm ((ms.set i m).set j m') G H F C ((g r).bind fun d' r2 => .ok .nx ((r2.set i (some d)).set j (some d'))) := q
    have x1' := x1.weak (V' := Un F1) fun _ z => .inl z
    cases hg : g r with
    | stuck => rw [hg] at q; exact q
    | exc c ds r2 => rw [hg] at q; exact exc_of ow fun G' H' F' cls od x => q G' H' F' cls od (x1'.trans x)
    | ok d' r2 =>
      rw [hg] at q
      intro G2 H2 F2 v' T' x2 e2 hv' d2
      have hv2 : m.P G2 H2 v d T := x2.md hv d1
      have far : ∀ p, T p → ¬ (Un F2 p ∨ T' p) := fun p hp => x2.apart d1 (fun p hp => (m.out hv p hp).2) p hp
      have e3 := e2.put i (lt_some li) hv2 fun p hp u => far p hp (.inl u)
      have e4 := e3.put j (by rw [List.length_set]; exact lt_some lj) hv' fun p hp u => by
        rcases un_put u with z | z
        · exact d2 p hp z
        · exact far p z (.inr hp)
      refine ⟨v, v', rfl, q G2 H2 _ _ ?_ e4⟩
      have xx : Ext G H (Un F) G2 H2 (fun p => (Un F2 p ∨ T' p) ∨ T p) := x1.trans (x2.frame T)
      refine xx.weak fun p hp => ?_
      rcases un_put hp with z | z
      · rcases un_put z with z | z
        · exact .inl (.inl z)
        · exact .inr z
      · exact .inl (.inr z)
/-! ### never reached -/
def dNever : Den Fl := fun _ => .stuck
theorem jss_never : JSs X xi E om rm ms sts ms' dNever := ⟨_, pss_never, fun _ _ _ _ _ _ _ q => q⟩
end

/-! ### the end -/
def scriptD (ns : List Int) : D := .list (ns.map .int)
theorem dq_ints {K : Frag} {G : Hp} : ∀ ns : List Int, DqAll K G (ns.map V.int) (ns.map .int)
  | [] => .nil
  | _ :: r => .cons (.int _) (dq_ints r)
/-- the law's promise from its function -/
theorem sp_law {xi : XI} {K : Frag} {f : Fn} {H : Hp} {a : Addr} {ns : List Int} (h : f [scriptD ns] = .ok (.bool true) []) (hS : SqL K H a (ns.map V.int)) :
    spF xi [mS K] [] (mP K) f [.ref a] H (fun v _ => v = .bl true) fun _ _ _ => False := by
  refine ⟨H, [scriptD ns], fun _ _ => False, ⟨Same.refl _, rfl, rfl, fun i m s r a1 a2 a3 => ?_, fun _ _ _ h => h.elim, fun _ _ _ h => h⟩, ?_⟩
  · cases i with
    | succ i => simp at a1
    | zero =>
      cases a1; cases a2; cases a3
      exact ⟨.ref a, rfl, ⟨a, _, _, rfl, rfl, hS, dq_ints ns⟩, fun _ z => z⟩
  · rw [h]
    exact fun G' H' F' v T _ _ hv _ => hv.1.bl_inv
end Dn


set_option maxHeartbeats 2000000
/-! Dn10: a def's proof in one rule. -/
namespace Dn
open PySem PySem.Spec PyProof.Rows L2
/-- a constant of the module, by what it holds -/
structure GlK (K : Frag) (mg : Str → Option Value) (x : Str) (d : D) : Prop where
  ex : ∃ (u : Value) (v : V), mg x = some u ∧ RelV v u ∧ ∀ G, Dq K G v d
theorem je_gl {X : Cx} {xi : XI} {E : XK} {ms : List (Md X.K)} {pos : Pos} {x : Str} {d : D} (g : GlK X.K X.mg x d) (hg : Gl X x := by rfl) (hd : (x == ("__debug__" : Str)) = false := by decide) : JE X xi E ms (.Name x pos) (mP X.K) (dC d) := by
  obtain ⟨u, v, h1, h2, h3⟩ := g.ex
  exact je_const (pe_glob hg h1 h2 hd) h3
section
variable {P : Program} {w : World} {K : Frag} {mg : Str → Option Value} {base : Heap} {N : List Str} {qual : Str} {scope : Scope} {f : Addr} {cdv : Value} {A : Around} {outer : List Env} {s : Shared} {H : Hp} {E : XK} {k : Nat}
abbrev cxD (P : Program) (w : World) (K : Frag) (mg : Str → Option Value) (base : Heap) (N : List Str) (qual : Str) (scope : Scope) (f : Addr) (cdv : Value) (A : Around) (outer : List Env) (s : Shared) (H : Hp) (E : XK) : Cx :=
  cxOf (L2.CX P w) P w K mg base N qual scope f cdv A outer s H E
theorem cfg_of (nd : N.Nodup) (hr : Room k (A.deeper (envOfC qual scope s.heap.objs.size f cdv))) : Cfg (cxD P w K mg base N qual scope f cdv A outer s H E) E k :=
  ⟨rfl, nd, passes_call (takes_of rfl rfl rfl rfl) fun _ _ _ _ h => h, hr⟩
theorem pas_of : PassesOwn (model (cxD P w K mg base N qual scope f cdv A outer s H E).prog (cxD P w K mg base N qual scope f cdv A outer s H E).w) (cxD P w K mg base N qual scope f cdv A outer s H E).A (cxD P w K mg base N qual scope f cdv A outer s H E).env (cxD P w K mg base N qual scope f cdv A outer s H E).xe := passes_of rfl
/-- how a body is told: the parameters' values are vs -/
structure Bd (P : Program) (w : World) (K : Frag) (mg : Str → Option Value) (base : Heap) (N : List Str) (qual : Str) (scope : Scope) (body : List Stmt) (k : Nat) (xi : XI) (pm : List (Md K)) (own : List Nat) (rm : Md K) (den : Den Fl) (vs : List V) : Prop where
  ex : ∀ (f : Addr) (cdv : Value) (A : Around) (outer : List Env) (s : Shared) (H : Hp) (E : XK), Cfg (cxD P w K mg base N qual scope f cdv A outer s H E) E k →
    ∃ ms', JSs (cxD P w K mg base N qual scope f cdv A outer s H E) xi E (omOf own vs pm) rm (ms0 N.length own vs pm) body ms' den ∧ ((rm = mP K ∧ Ow (omOf own vs pm) ms') ∨ ∀ ρ r, den ρ ≠ .ok .nx r)
theorem bd_of {body : List Stmt} {xi : XI} {pm ms ms' : List (Md K)} {own : List Nat} {den : Den Fl} {vs : List V} {om : Om K}
    (d : ∀ (f : Addr) (cdv : Value) (A : Around) (outer : List Env) (s : Shared) (H : Hp) (E : XK), Cfg (cxD P w K mg base N qual scope f cdv A outer s H E) E k → JSs (cxD P w K mg base N qual scope f cdv A outer s H E) xi E om (mP K) ms body ms' den)
    (h1 : omOf own vs pm = om := by rfl) (h2 : ms0 N.length own vs pm = ms := by rfl) (ow : Ow om ms' := by first | exact ow0 | exact ow1 rfl | exact ow2 (by decide) rfl rfl) : Bd P w K mg base N qual scope body k xi pm own (mP K) den vs :=
  by
    subst h1 h2
    exact ⟨fun f cdv A outer s H E c => ⟨ms', d f cdv A outer s H E c, .inl ⟨rfl, ow⟩⟩⟩
theorem bd_ofR {body : List Stmt} {xi : XI} {pm ms ms' : List (Md K)} {rm : Md K} {own : List Nat} {den : Den Fl} {vs : List V} {om : Om K}
    (d : ∀ (f : Addr) (cdv : Value) (A : Around) (outer : List Env) (s : Shared) (H : Hp) (E : XK), Cfg (cxD P w K mg base N qual scope f cdv A outer s H E) E k → JSs (cxD P w K mg base N qual scope f cdv A outer s H E) xi E om rm ms body ms' den)
    (hx : ∀ ρ r, den ρ ≠ .ok .nx r) (h1 : omOf own vs pm = om := by rfl) (h2 : ms0 N.length own vs pm = ms := by rfl) : Bd P w K mg base N qual scope body k xi pm own rm den vs :=
  by
    subst h1 h2
    exact ⟨fun f cdv A outer s H E c => ⟨ms', d f cdv A outer s H E c, .inr hx⟩⟩
variable {x : Str} {params : Arguments} {body : List Stmt} {dvs : List V} {kws : List (Str × V)} {fd : FuncData} {ps : List Str} {xi : XI} {pm : List (Md K)} {own : List Nat} {rm : Md K} {den : Den Fl}
theorem fn_ok (F : FunD K x qual params body scope dvs kws f fd) (S : FnScope N ps scope) (hpm : pm.length = ps.length) (ho : ∀ i ∈ own, i < pm.length) (b : ∀ vs : List V, vs.length = ps.length → Bd P w K mg base N qual scope body k xi pm own rm den vs) :
    FnOk P w K mg base (L2.CX P w) (k + 1) f fd ps (spF xi pm own rm (fnD N.length own den)) := by
  have hN : pm.length ≤ N.length := by
    have := congrArg List.length S.pre
    rw [List.length_take] at this
    omega
  refine F.ok S (spF_len hpm) fun cdv A outer s H vs Q E hr h => ?_
  have hl := spF_len hpm vs H Q E h
  obtain ⟨ms', j, hend⟩ := (b vs hl).ex f cdv A outer s H E (cfg_of S.nd hr)
  rcases hend with ⟨e, ow⟩ | hx
  · exact fn_body (P := P) (w := w) j e ow hN ho h
  · exact fn_bodyR (P := P) (w := w) j hN ho hx h
/-- a def that comes to nothing keeps any promise -/
theorem fn_stuck (hpm : pm.length = ps.length) : FnOk P w K mg base (L2.CX P w) k f fd ps (spF xi pm own rm fun _ => .stuck) :=
  ⟨spF_len hpm, fun _ _ _ _ _ _ _ _ _ _ _ _ _ h => by
    obtain ⟨_, _, _, _, q⟩ := h
    exact q.elim⟩
theorem cal_of {ds : List Value} {dv2 : List V} {sp : Sp} (F : FnOk P w K mg base (L2.CX P w) k f fd ps sp) (m : mg x = some (.ref f)) (kp : PySem.W.keepIn K (.ref f) = true) (b : Binds K fd ps ds) (v : Vals dv2 ds) : Cal P w K mg base k x sp dv2 := ⟨f, fd, ps, ds, F, m, kp, b, v⟩
end
/-! a body that always returns -/
abbrev NoNx (f : Den Fl) : Prop := ∀ ρ r, f ρ ≠ .ok .nx r
theorem nn_ret {f : Den D} : NoNx (dRet f) := fun ρ r h => by
  unfold dRet at h
  cases hf : f ρ with
  | ok d r' => rw [hf] at h; cases h
  | exc c ds r' => rw [hf] at h; cases h
  | stuck => rw [hf] at h; cases h
theorem nn_retS {i : Nat} : NoNx (dRetS i) := fun ρ r h => by
  unfold dRetS at h
  split at h <;> cases h
theorem nn_seq {f g : Den Fl} (hg : NoNx g) : NoNx (dSeq f g) := fun ρ r h => by
  unfold dSeq at h
  cases hf : f ρ with
  | exc c ds r' => rw [hf] at h; cases h
  | stuck => rw [hf] at h; cases h
  | ok fl r' =>
    rw [hf] at h
    cases fl with
    | nx => exact hg _ _ h
    | ret d => cases h
end Dn
namespace Dn
open PySem PySem.Spec PyProof.Rows L2
/-! lists or tuples, as they come -/
theorem PI.or {X : Cx} {tg e : Expr} {w w' : TI} (h : PI X tg e w) (h' : PI X tg e w') : PI X tg e (fun σ H R => w σ H R ∨ w' σ H R) := ⟨fun pins s σ H R I q => q.elim (h.run pins s σ H R I) (h'.run pins s σ H R I)⟩
theorem PG.or {X : Cx} {tg : Expr} {t t' : TG} (h : PG X tg t) (h' : PG X tg t') : PG X tg (fun v σ H Q => t v σ H Q ∨ t' v σ H Q) := ⟨fun pins s σ H v u Q I r q => q.elim (h.run pins s σ H v u Q I r) (h'.run pins s σ H v u Q I r)⟩
def gSq : D → Option (List D)
  | .list ds => some ds
  | .tuple ds => some ds
  | _ => none
abbrev iSq := iVal gSq
def tSq' (n : Nat) (hs : List D → Rho → Option Rho) : Tg := fun d ρ => match gSq d with
  | some ds => if ds.length = n then hs ds ρ else none
  | none => none
section
variable {X : Cx} {xi : XI} {E : XK} {ms ms' : List (Md X.K)} {tg e : Expr} {es : List Expr} {f : Den D} {pos : Pos} {ws : List Nat} {hs : List D → Rho → Option Rho}
theorem ji_sq (h : JE X xi E ms e (mP X.K) f) : JI X xi E ms tg e (iSq f) := by
  obtain ⟨t1, p1, h1⟩ := (ji_lst (tg := tg) h).run
  obtain ⟨t2, p2, h2⟩ := (ji_tpl (tg := tg) h).run
  refine ⟨_, PI.or p1 p2, fun G H σ ρ F Q e q => ?_⟩
  unfold iSq iVal at q
  cases hf : f ρ with
  | stuck => rw [hf] at q; exact q.elim
  | exc c ds r =>
    rw [hf] at q
    refine .inl (h1 G H σ ρ F Q e ?_)
    unfold iLst iVal
    rw [hf]
    exact q
  | ok d r =>
    rw [hf] at q
    replace q : PostI xi E ms σ G H F Q (liftL (gSq d) r) := q
    cases d with
    | list ds =>
      refine .inl (h1 G H σ ρ F Q e ?_)
      unfold iLst iVal
      rw [hf]
      exact q
    | tuple ds =>
      refine .inr (h2 G H σ ρ F Q e ?_)
      unfold iTpl iVal
      rw [hf]
      exact q
    | _ => exact q.elim
theorem jg_sq {n k : Nat} (hc : X.calm = true) (h : JGs X ms es ms' ws hs) (hn : (assignEach es X.env).length = n := by rfl) (hst : (assignEach es X.env).findIdx? (·.1) = none := by rfl) : JG X ms (.Tuple es k pos) ms' ws (tSq' n hs) := by
  obtain ⟨g1, p1, h1⟩ := (jg_tup (k := k) (pos := pos) hc h hn hst).run
  obtain ⟨g2, p2, h2⟩ := (jg_lst (k := k) (pos := pos) hc h hn hst).run
  refine ⟨_, PG.or p1 p2, fun G H σ ρ F v d Q e hv q => ?_⟩
  unfold tSq' at q
  cases d with
  | tuple ds => exact .inl (h1 G H σ ρ F v _ Q e hv q)
  | list ds => exact .inr (h2 G H σ ρ F v _ Q e hv q)
  | _ => exact q.elim
end
end Dn


set_option maxHeartbeats 2000000
/-! Dn11: the head's facts, the law's end. -/
namespace Dn
open PySem PySem.Spec PyProof.Rows L2
section
variable {K : Frag} {mg : Str → Option Value} {x : Str}
theorem gl_tup {vs : List V} {ds : List D} (h : mg x = some (.ref (He.ga K x))) (hs : ∀ H : Hp, SqT K H (He.ga K x) vs) (hd : ∀ G, DqAll K G vs ds) : GlK K mg x (.tuple ds) :=
  ⟨_, .ref (He.ga K x), h, rfl, fun G => .tup (hs G) (hd G)⟩
end
abbrev xi0 : XI := fun _ _ _ _ _ => False
end Dn


set_option maxHeartbeats 2000000
/-! Dn12: pairs drawn from any two of lists and tuples; counted items of either. -/
namespace Dn
open PySem PySem.Spec PyProof.Rows L2
/-- a list or a tuple -/
inductive Kd where
  | l | t
def SqK (k : Kd) (K : Frag) (H : Hp) (a : Addr) (xs : List V) : Prop := match k with
  | .l => SqL K H a xs
  | .t => SqT K H a xs
def IrK (k : Kd) (h : Heap) (it a : Addr) (i : Nat) : Prop := match k with
  | .l => h.IsListIter it a i
  | .t => h.IsTupleIter it a i
def HsK (k : Kd) (h : Heap) (a : Addr) (us : Array Value) : Prop := match k with
  | .l => h.IsList a us
  | .t => h.IsTuple a us
def irO (k : Kd) (a : Addr) : Obj := match k with
  | .l => { cls := .type "list_iterator", data := .fields #[.ref a, .int 0 0] }
  | .t => { cls := .type "tuple_iterator", data := .fields #[.ref a, .int 0 0] }
theorem ir_first {k : Kd} {h : Heap} {it a : Addr} (e : h.get? it = some (irO k a)) : IrK k h it a 0 := by
  cases k with
  | l => exact ⟨_, e, rfl, rfl⟩
  | t => exact ⟨_, e, rfl, rfl⟩
theorem ir_at {k : Kd} {h h' : Heap} {it a : Addr} {i : Nat} (q : IrK k h it a i) (e : ∀ o, h.get? it = some o → h'.get? it = some o) : IrK k h' it a i := by
  cases k with
  | l => exact Heap.IsListIter.at q e
  | t => exact Heap.IsTupleIter.at q e
theorem ir_obj {k : Kd} {h : Heap} {it a : Addr} {i : Nat} (q : IrK k h it a i) : ∃ o, h.get? it = some o ∧ ∀ v, o.data ≠ .cell v := by
  cases k with
  | l =>
    obtain ⟨o, ho, _, hd⟩ := q
    exact ⟨o, ho, fun v z => by rw [hd] at z; cases z⟩
  | t =>
    obtain ⟨o, ho, _, hd⟩ := q
    exact ⟨o, ho, fun v z => by rw [hd] at z; cases z⟩
theorem hs_lt {k : Kd} {h : Heap} {a : Addr} {us : Array Value} (q : HsK k h a us) : a < h.objs.size := by
  cases k with
  | l => obtain ⟨o, e, _⟩ := q; exact Heap.lt_size e
  | t => obtain ⟨o, e, _⟩ := q; exact Heap.lt_size e
theorem begK (k : Kd) (a : Addr) (us : Array Value) : Begins (.ref a) (irO k a) fun h => HsK k h a us := by
  cases k with
  | l => exact begins_list a us
  | t => exact begins_tuple a us
theorem drawK {P : Program} {w : World} {A : Around} (hh : A.handled = none) (k : Kd) (it a : Addr) (hne : a ≠ it) (us : Array Value) : Draws P w A it [it, a] us.size (fun i v => us[i]? = some v) (fun i h => IrK k h it a i ∧ HsK k h a us) := by
  cases k with
  | l => exact Draws.list hh it a hne us
  | t => exact Draws.tuple hh it a hne us
section
variable {X : Cx} {pins : List (Addr × Obj)} {σ : L2.St} {H : Hp} {s : Shared} {a : Addr} {xs ys : List V}
theorem seqK {k : Kd} (I : Inv X pins σ H s) (h : SqK k X.K H a xs) : ∃ us : List Value, Vals xs us ∧ HsK k s.heap a us.toArray := by
  cases k with
  | l => obtain ⟨us, r, p, _⟩ := I.list h; exact ⟨us, r, p.isList⟩
  | t => obtain ⟨us, r, p, _⟩ := I.tuple h; exact ⟨us, r, p⟩
theorem seqK_inj {k : Kd} (I : Inv X pins σ H s) (h : SqK k X.K H a xs) (h' : SqK k X.K H a ys) : xs = ys := by
  cases k with
  | l => exact I.list_inj h h'
  | t => exact I.tuple_inj h h'
end
/-! ### zip -/
def ItzK (k1 k2 : Kd) (K : Frag) (a b : Addr) : It :=
  ⟨fun i H => ∃ (xs ys : List V) (x y : V), SqK k1 K H a xs ∧ SqK k2 K H b ys ∧ xs[i]? = some x ∧ ys[i]? = some y,
    fun i H v H' => ∃ T x y, v = .ref T ∧ H T = none ∧ H' = upd H T (.tup [x, y]) ∧ (∀ xs, SqK k1 K H a xs → xs[i]? = some x) ∧ ∀ ys, SqK k2 K H b ys → ys[i]? = some y,
    fun i H => ∃ xs ys : List V, SqK k1 K H a xs ∧ SqK k2 K H b ys ∧ i ≤ xs.length ∧ i ≤ ys.length ∧ (i = xs.length ∨ i = ys.length)⟩
structure ZpK (k1 k2 : Kd) (a b z TI TO i1 i2 : Addr) (i : Nat) (h : Heap) : Prop where
  z : IsZip h z TI TO .none
  ti : IsPair h TI (.ref i1) (.ref i2)
  to_ : ∃ x y, IsPair h TO x y
  r1 : IrK k1 h i1 a i
  r2 : IrK k2 h i2 b i
theorem sep_of {a b z TI TO i1 i2 : Addr} (D : ZipApart z TI TO i1 i2 a b) (s12 : i1 ≠ b) (s21 : i2 ≠ a) : ZipSep2 z TI TO i1 i2 [i1, a] [i2, b] where
  TIz := D.TIz
  TOz := D.TOz
  TITO := D.TITO
  TIi1 := D.TIi1
  mem1 := List.mem_cons_self
  zf1 := fun m => by
    simp only [List.mem_cons, List.not_mem_nil, or_false] at m
    rcases m with m | m
    · exact D.i1z m.symm
    · exact D.l1z m.symm
  Tf1 := fun m => by
    simp only [List.mem_cons, List.not_mem_nil, or_false] at m
    rcases m with m | m
    · exact D.TOi1 m
    · exact D.l1TO m.symm
  TIi2 := D.TIi2
  mem2 := List.mem_cons_self
  zf2 := fun m => by
    simp only [List.mem_cons, List.not_mem_nil, or_false] at m
    rcases m with m | m
    · exact D.i2z m.symm
    · exact D.l2z m.symm
  Tf2 := fun m => by
    simp only [List.mem_cons, List.not_mem_nil, or_false] at m
    rcases m with m | m
    · exact D.TOi2 m
    · exact D.l2TO m.symm
  sep1_2 := fun m => by
    simp only [List.mem_cons, List.not_mem_nil, or_false] at m
    rcases m with m | m
    · exact D.i12 m
    · exact s12 m
  sep2_1 := fun m => by
    simp only [List.mem_cons, List.not_mem_nil, or_false] at m
    rcases m with m | m
    · exact D.i12 m.symm
    · exact s21 m
theorem turn_zipK {P : Program} {w : World} {K : Frag} {elts : List Expr} {kk : Nat} {tpos : Pos} {k1 k2 : Kd} {a b z TI TO i1 i2 : Addr} (D : ZipApart z TI TO i1 i2 a b) :
    Turn P w K (.Tuple elts kk tpos) (ItzK k1 k2 K a b) [z, TI, TO, i1, i2] z (ZpK k1 k2 a b z TI TO i1 i2) where
  mem := List.mem_cons_self
  obj := fun i h st c hc => by
    obtain ⟨x, y, e3⟩ := st.to_
    simp only [List.mem_cons, List.not_mem_nil, or_false] at hc
    rcases hc with q | q | q | q | q <;> subst q
    · exact ⟨_, st.z, fun _ => nofun⟩
    · exact ⟨_, st.ti, fun _ => nofun⟩
    · exact ⟨_, e3, fun _ => nofun⟩
    · exact ir_obj st.r1
    · exact ir_obj st.r2
  keep := fun i h h' st k => by
    obtain ⟨x, y, e3⟩ := st.to_
    exact ⟨k z (by simp) _ st.z, k TI (by simp) _ st.ti, ⟨x, y, k TO (by simp) _ e3⟩, ir_at st.r1 (k i1 (by simp)), ir_at st.r2 (k i2 (by simp))⟩
  item := by
    intro X hP hw hK hc i pins s σ H E I hf st hg
    subst hP hw hK
    obtain ⟨xs, ys, x, y, q1, q2, g1, g2⟩ := hg
    obtain ⟨x0, y0, e3⟩ := st.to_
    obtain ⟨us, ru, p1⟩ := seqK I q1
    obtain ⟨vs, rv, p2⟩ := seqK I q2
    obtain ⟨u, hu, hxu⟩ := ru.get g1
    obtain ⟨v, hv, hyv⟩ := rv.get g2
    have hu' : us.toArray[i]? = some u := by simpa using hu
    have hv' : vs.toArray[i]? = some v := by simpa using hv
    have l1 : i < us.toArray.size := by simpa using (List.getElem?_eq_some_iff.mp hu).1
    have l2 : i < vs.toArray.size := by simpa using (List.getElem?_eq_some_iff.mp hv).1
    have zl : z < s.heap.objs.size := Heap.lt_size st.z
    have hd : X.A.in1.handled = none := I.ok.hd hc
    refine wpAny_pyNext_zipD2_item (sep_of D D.l2i1.symm D.l1i2.symm) (drawK hd k1 i1 a D.l1i1 us.toArray) (drawK hd k2 i2 b D.l2i2 vs.toArray) st.z st.ti e3 ⟨st.r1, p1⟩ ⟨st.r2, p2⟩ l1 l2 fun w1 w2 h' tk c1 c2 z' to' s1 s2 nt sz kp => ?_
    rw [hu'] at c1
    rw [hv'] at c2
    cases c1
    cases c2
    refine ⟨_, rfl, wpAny_letOwnedTupleGo_zip (s := { s with heap := h', toks := tk }) z' fun h2 z2 sb => ?_⟩
    have nt2 : h2.get? s.heap.objs.size = some { cls := .type "tuple", data := .seq #[u, v] } := (sb.2 _ (Nat.ne_of_gt zl)).trans nt
    have ok : ObjOk X.prog X.w (upd H s.heap.objs.size (.tup [x, y])) h2 s.heap.objs.size (.tup [x, y]) := ⟨show 2 ≤ sizeLine by decide, [u, v], .cons hxu (.cons hyv .nil), ⟨_, nt2, rfl, _, rfl⟩⟩
    have J := I.turnedNew (t' := tk) (h' := h2) (ch := [z, TI, TO, i1, i2]) (fun c o m q => by
      simp only [List.mem_cons, List.not_mem_nil, or_false, not_or] at m
      exact (sb.2 c m.1).trans (kp c o m.1 m.2.2.1 m.2.2.2.1 m.2.2.2.2 q)) hf (Nat.le_refl _) ok
    refine ⟨.ref s.heap.objs.size, _, J, rfl, ⟨_, x, y, rfl, I.hok.fresh (Nat.le_refl _), rfl, fun l hl => (seqK_inj I hl q1) ▸ g1, fun l hl => (seqK_inj I hl q2) ▸ g2⟩, ⟨z2, ?_, ⟨u, v, (sb.2 _ D.TOz).trans to'⟩, ir_at s1.1 fun o q => (sb.2 _ D.i1z).trans q, ir_at s2.1 fun o q => (sb.2 _ D.i2z).trans q⟩, fun c m => ?_⟩
    · exact (sb.2 _ D.TIz).trans (kp _ _ D.TIz D.TITO D.TIi1 D.TIi2 st.ti)
    · have cl : c < s.heap.objs.size := by
        simp only [List.mem_cons, List.not_mem_nil, or_false] at m
        obtain ⟨o1, f1, _⟩ := ir_obj st.r1
        obtain ⟨o2, f2, _⟩ := ir_obj st.r2
        rcases m with m | m | m | m | m <;> rw [m]
        · exact zl
        · exact Heap.lt_size st.ti
        · exact Heap.lt_size e3
        · exact Heap.lt_size f1
        · exact Heap.lt_size f2
      rw [upd_ne (Nat.ne_of_lt cl)]
      exact (hf c m).1
  done := by
    intro X hP hw hK hc i pins s σ H E I hf st hg
    subst hP hw hK
    obtain ⟨xs, ys, q1, q2, l1, l2, hend⟩ := hg
    obtain ⟨x0, y0, e3⟩ := st.to_
    obtain ⟨us, ru, p1⟩ := seqK I q1
    obtain ⟨vs, rv, p2⟩ := seqK I q2
    have n1 : us.toArray.size = xs.length := by rw [List.size_toArray, ru.length]
    have n2 : vs.toArray.size = ys.length := by rw [List.size_toArray, rv.length]
    have hd : X.A.in1.handled = none := I.ok.hd hc
    exact wpAny_pyNext_zipD2_end (sep_of D D.l2i1.symm D.l1i2.symm) (drawK hd k1 i1 a D.l1i1 us.toArray) (drawK hd k2 i2 b D.l2i2 vs.toArray) st.z st.ti e3 ⟨st.r1, p1⟩ ⟨st.r2, p2⟩ (by omega) (by omega) (by omega) fun h' tk kp =>
      ⟨rfl, I.turnedL (t' := tk) (ch := [z, TI, TO, i1, i2]) (fun c o m q => by
        simp only [List.mem_cons, List.not_mem_nil, or_false, not_or] at m
        exact kp c o m.1 m.2.2.1 m.2.2.2.1 m.2.2.2.2 q) hf⟩
  self := fun A i s Q E st h => wpAny_pyIter_zip st.z h
def iZpK (K : Frag) (ta : TA) : TI := fun σ H R => ta σ H fun vs H1 => ∃ k1 k2 a b xs ys, vs = [.ref a, .ref b] ∧ SqK k1 K H1 a xs ∧ SqK k2 K H1 b ys ∧ R (ItzK k1 k2 K a b) H1
theorem pi_zipK {X : Cx} {e e2 : Expr} {ta : TA} {p pos tpos : Pos} {elts : List Expr} {kk : Nat} (hg : Gl X "zip") (hm : X.mg "zip" = none) (ha : PA X [e, e2] ta)
    (hs : starEach [e, e2] X.env = (false, eval e X.env) :: starEach [e2] X.env := by rfl) (hpl : (backTo pos (starEach [e2] X.env)).any (·.1) = false := by rfl) :
    PI X (.Tuple elts kk tpos) (.Call (.Name "zip" p) [e, e2] [] pos) (iZpK X.K ta) := by
  refine ⟨fun pins s σ H R I h => Call_ (ld_blt I hg hm PyProof.Rows.boot_zip (PyProof.Rows.callWith_type1 (thn (ha.run pos pins s σ H _ I h) fun us s1 ⟨vs, H1, I1, r1, q1⟩ => ?_) hs hpl))⟩
  obtain ⟨k1, k2, a, b, xs, ys, rfl, hx, hy, q⟩ := q1
  obtain ⟨u, u2, rfl, r, r'⟩ : ∃ u u2, us = [u, u2] ∧ RelV (.ref a) u ∧ RelV (.ref b) u2 := by
    cases r1 with
    | cons m n =>
      cases n with
      | cons m' n' =>
        cases n'
        exact ⟨_, _, rfl, m, m'⟩
  cases r
  cases r'
  obtain ⟨us, ru, p1⟩ := seqK I1 hx
  obtain ⟨vs, rv, p2⟩ := seqK I1 hy
  refine zip_begins2 (begK k1 a us.toArray) (begK k2 b vs.toArray) p1 p2 fun h' hz hti hto f1 f2 sz kp => wpAny_pyIter_zip hz ?_
  refine ⟨_, [s1.heap.objs.size + 4, s1.heap.objs.size + 2, s1.heap.objs.size + 3, s1.heap.objs.size, s1.heap.objs.size + 1], _, _, H1, rfl, I1.kept (t' := s1.toks) kp, turn_zipK (PySem.W.ktu_apart s1.heap.objs.size a b (hs_lt p1) (hs_lt p2)), ⟨hz, hti, ⟨_, _, hto⟩, ir_first f1, ir_first f2⟩, fun c m => ?_, q⟩
  have cl : s1.heap.objs.size ≤ c := by
    simp only [List.mem_cons, List.not_mem_nil, or_false] at m
    rcases m with m | m | m | m | m <;> rw [m] <;> first | exact Nat.le_refl _ | exact Nat.le_add_right _ _
  exact I1.fpOk cl (I1.hok.fresh cl)
/-! ### enumerate -/
theorem newE {v : Value} {o : Obj} {C : Heap → Prop} (B : Begins v o C) : Meets (Builtin.«enumerate.__new__» ⟨[.type "enumerate", v], []⟩) (fun _ R s => C s.heap ∧
      R (.ok (.ret (.ref (s.heap.push o).objs.size))) { s with heap := (s.heap.push o).push { cls := .type "enumerate", data := .fields #[.none, .bool false, .ref s.heap.objs.size, rawInt 0, .none, .none] } }) :=
  .of_wp fun P w A R s q => by
    obtain ⟨hp, gg, dr, tk, oo⟩ := s
    obtain ⟨c1, fin⟩ := q
    have hsub := sub_enumerate
    have go : ∀ {A' : Around} {E Q : Value → Shared → Prop}, Q (.ref hp.objs.size) ⟨hp.push o, gg, dr, tk, oo⟩ → wpAny (model P w) A' (pyIter v) Q E ⟨hp, gg, dr, tk, oo⟩ := fun z => B.iter P w _ _ ⟨hp, gg, dr, tk, oo⟩ _ c1 z
    wp_walk using go
    refine wpAny_stack_any fun st => wpAny_pure ?_
    split
    · rename_i c _ _ _ _ _
      cases (c == Value.type "enumerate") <;> (wp_walk using go; exact ⟨_, rfl, fin⟩)
    · wp_walk using go
      exact ⟨_, rfl, fin⟩
theorem begE {P : Program} {w : World} {A : Around} {E : Value → Shared → Prop} {s : Shared} {v : Value} {o : Obj} {C : Heap → Prop} {Q : Value → Shared → Prop} (B : Begins v o C) (h1 : C s.heap)
    (h : ∀ h', IsEnum h' (s.heap.objs.size + 1) s.heap.objs.size 0 .none → h'.get? s.heap.objs.size = some o → (∀ b o, s.heap.get? b = some o → h'.get? b = some o) → Q (.ref (s.heap.objs.size + 1)) { s with heap := h' }) :
    wpAny (model P w) A (call (.type "enumerate") [v]) Q E s := by
  have sz : (s.heap.push o).objs.size = s.heap.objs.size + 1 := Heap.size_push ..
  refine callType_new F.called_enumerate (by decide) (F.typeCall_enumerate_1 _) (F.newCall_enumerate_1 _) (fun obj => F.args_object_init_2 obj _) F.entry_enumerate_new (newE B) ⟨h1, ?_⟩
  have new := Heap.get?_push_size (s.heap.push o) (o := { cls := .type "enumerate", data := .fields #[.none, .bool false, .ref s.heap.objs.size, rawInt 0, .none, .none] }) rfl
  rw [sz] at new
  show _ ∧ _
  rw [sz]
  exact ⟨⟨_, new, rfl⟩, h _ new (Heap.get?_push_of_some _ (Heap.get?_push_size _ B.free)) fun b ob q => Heap.get?_push_of_some _ (Heap.get?_push_of_some _ q)⟩
def ItEK (k : Kd) (K : Frag) (a : Addr) (c : Int) : It :=
  ⟨fun i H => ∃ (xs : List V) (x : V), SqK k K H a xs ∧ xs[i]? = some x, fun i H v H' => ∃ T x, v = .ref T ∧ H T = none ∧ H' = upd H T (.tup [.int (c + (i : Nat)), x]) ∧ ∀ xs, SqK k K H a xs → xs[i]? = some x, fun i H => ∃ xs : List V, SqK k K H a xs ∧ xs.length = i⟩
structure EnK (k : Kd) (a e it : Addr) (c : Int) (i : Nat) (h : Heap) : Prop where
  e : ∃ old, IsEnum h e it (c + (i : Nat)) old
  r : IrK k h it a i
theorem turn_enK {P : Program} {w : World} {K : Frag} {elts : List Expr} {kk : Nat} {tpos : Pos} {k : Kd} {a e it : Addr} {c : Int} (n1 : e ≠ it) (n2 : a ≠ e) (n3 : a ≠ it) :
    Turn P w K (.Tuple elts kk tpos) (ItEK k K a c) [e, it] e (EnK k a e it c) where
  mem := List.mem_cons_self
  obj := fun i h st b hb => by
    obtain ⟨old, e1⟩ := st.e
    simp only [List.mem_cons, List.not_mem_nil, or_false] at hb
    rcases hb with q | q <;> subst q
    · exact ⟨_, e1, fun _ => nofun⟩
    · exact ir_obj st.r
  keep := fun i h h' st kp => by
    obtain ⟨old, e1⟩ := st.e
    exact ⟨⟨old, kp e (by simp) _ e1⟩, ir_at st.r (kp it (by simp))⟩
  item := by
    intro X hP hw hK hc i pins s σ H E I hf st hg
    subst hP hw hK
    obtain ⟨xs, x, q1, g1⟩ := hg
    obtain ⟨old, e1⟩ := st.e
    obtain ⟨us, ru, p1⟩ := seqK I q1
    obtain ⟨u, hu, hxu⟩ := ru.get g1
    have hu' : us.toArray[i]? = some u := by simpa using hu
    have l1 : i < us.toArray.size := by simpa using (List.getElem?_eq_some_iff.mp hu).1
    have el : e < s.heap.objs.size := Heap.lt_size e1
    have hd : X.A.in1.handled = none := I.ok.hd hc
    refine wpAny_pyNext_enum_itemC (drawK hd k it a n3 us.toArray) e1 ⟨st.r, p1⟩ l1 n1 (by simp only [List.mem_cons, List.not_mem_nil, or_false, not_or]; exact ⟨n1, n2.symm⟩) fun w1 h' tk c1 out s1 nt sz kp => ?_
    rw [hu'] at c1
    cases c1
    refine ⟨_, rfl, wpAny_letOwnedTupleGo_enum (s := { s with heap := h', toks := tk + 1 }) out fun h2 e2 sb => ?_⟩
    have nt2 : h2.get? s.heap.objs.size = some { cls := .type "tuple", data := .seq #[.int (c + (i : Nat)) tk, u] } := (sb.2 _ (Nat.ne_of_gt el)).trans nt
    have ok : ObjOk X.prog X.w (upd H s.heap.objs.size (.tup [.int (c + (i : Nat)), x])) h2 s.heap.objs.size (.tup [.int (c + (i : Nat)), x]) := ⟨show 2 ≤ sizeLine by decide, [.int (c + (i : Nat)) tk, u], .cons ⟨_, rfl⟩ (.cons hxu .nil), ⟨_, nt2, rfl, _, rfl⟩⟩
    have J := I.turnedNew (t' := tk + 1) (h' := h2) (ch := [e, it]) (fun b o m q => by
      simp only [List.mem_cons, List.not_mem_nil, or_false, not_or] at m
      exact (sb.2 b m.1).trans (kp b o m.1 m.2 q)) hf (Nat.le_refl _) ok
    refine ⟨.ref s.heap.objs.size, _, J, rfl, ⟨_, x, rfl, I.hok.fresh (Nat.le_refl _), rfl, fun l hl => (seqK_inj I hl q1) ▸ g1⟩, ⟨⟨u, ?_⟩, ir_at s1.1 fun o q => (sb.2 _ n1.symm).trans q⟩, fun b m => ?_⟩
    · rw [show c + ((i + 1 : Nat) : Int) = c + (i : Nat) + 1 by omega]
      exact e2
    · have cl : b < s.heap.objs.size := by
        simp only [List.mem_cons, List.not_mem_nil, or_false] at m
        obtain ⟨o1, f1, _⟩ := ir_obj st.r
        rcases m with m | m <;> rw [m]
        · exact el
        · exact Heap.lt_size f1
      rw [upd_ne (Nat.ne_of_lt cl)]
      exact (hf b m).1
  done := by
    intro X hP hw hK hc i pins s σ H E I hf st hg
    subst hP hw hK
    obtain ⟨xs, q1, l1⟩ := hg
    obtain ⟨old, e1⟩ := st.e
    obtain ⟨us, ru, p1⟩ := seqK I q1
    have n1' : us.toArray.size = i := by rw [List.size_toArray, ← ru.length, l1]
    have hd : X.A.in1.handled = none := I.ok.hd hc
    subst n1'
    obtain ⟨f0, f1, f2, f3, f4, f5⟩ := hf it (by simp)
    exact wpAny_pyNext_enum_endD (drawK hd k it a n3 us.toArray) e1 ⟨st.r, p1⟩ fun h' eb => ⟨rfl, I.turned (t' := s.toks) (fun b o hb q => eb b o hb q) f0 f1 f3 f4 f5⟩
  self := fun A i s Q E st h => by
    obtain ⟨old, e1⟩ := st.e
    exact wpAny_pyIter_enum e1 h
def iEnK (K : Frag) (ta : TA) : TI := fun σ H R => ta σ H fun vs H1 => ∃ k a xs, vs = [.ref a] ∧ SqK k K H1 a xs ∧ R (ItEK k K a 0) H1
theorem pi_enK {X : Cx} {e : Expr} {ta : TA} {p pos tpos : Pos} {elts : List Expr} {kk : Nat} (hg : Gl X "enumerate") (hm : X.mg "enumerate" = none) (ha : PA X [e] ta) (hs : starEach [e] X.env = [(false, eval e X.env)] := by rfl) :
    PI X (.Tuple elts kk tpos) (.Call (.Name "enumerate" p) [e] [] pos) (iEnK X.K ta) := by
  refine ⟨fun pins s σ H R I h => Call_ (ld_blt I hg hm boot_enumerate (PyProof.Rows.callWith_type1 (thn (ha.run pos pins s σ H _ I h) fun us s1 ⟨vs, H1, I1, r1, q1⟩ => ?_) hs rfl))⟩
  obtain ⟨k, a, xs, rfl, hx, q⟩ := q1
  obtain ⟨u, rfl, r⟩ : ∃ u, us = [u] ∧ RelV (.ref a) u := by
    cases r1 with
    | cons m n =>
      cases n
      exact ⟨_, rfl, m⟩
  cases r
  obtain ⟨us, ru, p1⟩ := seqK I1 hx
  refine begE (begK k a us.toArray) p1 fun h' he f1 kp => wpAny_pyIter_enum he ?_
  have al := hs_lt p1
  refine ⟨_, [s1.heap.objs.size + 1, s1.heap.objs.size], _, _, H1, rfl, I1.kept (t' := s1.toks) kp, turn_enK (Nat.succ_ne_self _) (Nat.ne_of_lt (Nat.lt_succ_of_lt al)) (Nat.ne_of_lt al), ⟨⟨_, by simpa using he⟩, ir_first f1⟩, fun c m => ?_, q⟩
  have cl : s1.heap.objs.size ≤ c := by
    simp only [List.mem_cons, List.not_mem_nil, or_false] at m
    rcases m with m | m <;> rw [m] <;> first | exact Nat.le_refl _ | exact Nat.le_add_right _ _
  exact I1.fpOk cl (I1.hok.fresh cl)
/-! ### in data -/
def SqD (k : Kd) (K : Frag) (G : Hp) (a : Addr) (xs : List V) : Prop := match k with
  | .l => G a = some (.lst xs)
  | .t => SqT K G a xs
theorem sqD_up {k : Kd} {K : Frag} {G H : Hp} {a : Addr} {xs : List V} (s : Same G H) (h : SqD k K G a xs) : SqK k K H a xs := by
  cases k with
  | l => exact .inl (.inl (s _ _ h))
  | t => exact sqT_same s h
theorem sqD_of {K : Frag} {G : Hp} {v : V} {d : D} {ds : List D} (h : Dq K G v d) (e : gSq d = some ds) : ∃ k a xs, v = .ref a ∧ SqD k K G a xs ∧ DqAll K G xs ds := by
  cases d with
  | list es =>
    cases e
    obtain ⟨a, xs, r, q1, q2⟩ := h.lst_inv
    exact ⟨.l, a, xs, r, q1, q2⟩
  | tuple es =>
    cases e
    obtain ⟨a, xs, r, q1, q2⟩ := h.tup_inv
    exact ⟨.t, a, xs, r, q1, q2⟩
  | _ => cases e
theorem itOk_zipK {K : Frag} {G : Hp} {k1 k2 : Kd} {a b : Addr} {xs ys : List V} {ds es : List D} (h : SqD k1 K G a xs) (t : DqAll K G xs ds) (h' : SqD k2 K G b ys) (t' : DqAll K G ys es) : ItOk K (ItzK k1 k2 K a b) G (List.zipWith (fun x y => .tuple [x, y]) ds es) := by
  unfold ItOk
  rw [List.length_zipWith, ← t.len, ← t'.len]
  refine ⟨fun i H hi s => ?_, fun H s => ⟨xs, ys, sqD_up s h, sqD_up s h', Nat.min_le_left _ _, Nat.min_le_right _ _, by omega⟩, fun i H x H' hi s y G1 d s1 s2 hd => ?_⟩
  · have h1 : i < xs.length := by omega
    have h2 : i < ys.length := by omega
    exact ⟨xs, ys, xs[i], ys[i], sqD_up s h, sqD_up s h', by simp [h1], by simp [h2]⟩
  · obtain ⟨T, p, q, rfl, nT, rfl, hp, hq⟩ := y
    obtain ⟨dp, e1, q1⟩ := t.getV (hp xs (sqD_up s h))
    obtain ⟨dq, e2, q2⟩ := t'.getV (hq ys (sqD_up s h'))
    rw [List.getElem?_zipWith, e1, e2] at hd
    cases hd
    exact grow_pair s2 nT (q1.same s1) (q2.same s1)
theorem itOk_enK {K : Frag} {G : Hp} {k : Kd} {a : Addr} {c : Int} {xs : List V} {ds : List D} (h : SqD k K G a xs) (t : DqAll K G xs ds) : ItOk K (ItEK k K a c) G (enumD c ds) := by
  unfold ItOk
  rw [show (enumD c ds).length = ds.length by simp [enumD], ← t.len]
  refine ⟨fun i H hi s => ⟨xs, xs[i], sqD_up s h, by simp [hi]⟩, fun H s => ⟨xs, sqD_up s h, rfl⟩, fun i H x H' hi s y G1 d s1 s2 hd => ?_⟩
  obtain ⟨T, q, rfl, nT, rfl, hq⟩ := y
  obtain ⟨dq, e2, q2⟩ := t.getV (hq xs (sqD_up s h))
  unfold enumD at hd
  rw [List.getElem?_mapIdx, e2] at hd
  cases hd
  exact grow_pair s2 nT (.int _) (q2.same s1)
def gZipK : List D → Option (List D)
  | [d, e] => match gSq d, gSq e with
    | some ds, some es => some (List.zipWith (fun x y => .tuple [x, y]) ds es)
    | _, _ => none
  | _ => none
def gEnK : List D → Option (List D)
  | [d] => (gSq d).map (enumD 0)
  | _ => none
abbrev iZipM := iArg gZipK
abbrev iEnM := iArg gEnK
section
variable {X : Cx} {xi : XI} {E : XK} {ms : List (Md X.K)} {e e2 : Expr} {fa : Den (List D)} {p pos tpos : Pos} {elts : List Expr} {kk : Nat}
theorem ji_zipM (hm : X.mg "zip" = none) (h : JA X xi E ms [e, e2] [none, none] fa) (hg : Gl X "zip" := by rfl)
    (hs : starEach [e, e2] X.env = (false, eval e X.env) :: starEach [e2] X.env := by rfl) (hpl : (backTo pos (starEach [e2] X.env)).any (·.1) = false := by rfl) :
    JI X xi E ms (.Tuple elts kk tpos) (.Call (.Name "zip" p) [e, e2] [] pos) (iZipM fa) := by
  obtain ⟨t, pt, h⟩ := h.run
  refine ⟨_, pi_zipK hg hm pt hs hpl, iArg_run h rfl fun G H vs ds xs Q s hv hq q => ?_⟩
  unfold gZipK at hq
  split at hq
  · rename_i d1 d2
    obtain ⟨v, w, rfl, h1, h2⟩ := dqAll_two hv
    split at hq
    · rename_i es1 es2 e1 e2
      cases hq
      obtain ⟨k1, a, xs, rfl, q1, q2⟩ := sqD_of h1 e1
      obtain ⟨k2, b, ys, rfl, q3, q4⟩ := sqD_of h2 e2
      exact ⟨k1, k2, a, b, xs, ys, rfl, sqD_up s q1, sqD_up s q3, q _ (itOk_zipK q1 q2 q3 q4)⟩
    · cases hq
  · cases hq
theorem ji_enM (hm : X.mg "enumerate" = none) (h : JA X xi E ms [e] [none] fa) (hg : Gl X "enumerate" := by rfl) (hs : starEach [e] X.env = [(false, eval e X.env)] := by rfl) :
    JI X xi E ms (.Tuple elts kk tpos) (.Call (.Name "enumerate" p) [e] [] pos) (iEnM fa) := by
  obtain ⟨t, pt, h⟩ := h.run
  refine ⟨_, pi_enK hg hm pt hs, iArg_run h rfl fun G H vs ds xs Q s hv hq q => ?_⟩
  unfold gEnK at hq
  split at hq
  · rename_i d
    obtain ⟨v, rfl, h1⟩ := dqAll_one hv
    cases e1 : gSq d with
    | none => rw [e1] at hq; cases hq
    | some es =>
      rw [e1] at hq
      cases hq
      obtain ⟨k, a, xs, rfl, q1, q2⟩ := sqD_of h1 e1
      exact ⟨k, a, xs, rfl, sqD_up s q1, q _ (itOk_enK q1 q2)⟩
  · cases hq
end
end Dn


set_option maxHeartbeats 2000000
/-! Dn13: a list or a tuple, the other way round. -/
namespace Dn
open PySem PySem.Spec PyProof.Rows L2
theorem rev_pick (us : Array Value) : ((List.range us.size).filterMap fun (k : Nat) => us[(((us.size : Int) - 1) + (k : Int) * -1).toNat]?) = us.toList.reverse := by
  apply List.ext_getElem?
  intro i
  have e : ∀ k, k < us.size → us[(((us.size : Int) - 1) + (k : Int) * -1).toNat]? = some (us.toList.reverse.getD k .none) := fun k hk => by
    have e1 : (((us.size : Int) - 1) + (k : Int) * -1).toNat = us.size - 1 - k := by omega
    rw [e1, List.getD_eq_getElem?_getD, List.getElem?_reverse (by simpa using hk)]
    simp only [Array.length_toList, Array.getElem?_toList]
    rw [Array.getElem?_eq_getElem (by omega)]
    rfl
  have e2 : ((List.range us.size).filterMap fun (k : Nat) => us[(((us.size : Int) - 1) + (k : Int) * -1).toNat]?) = (List.range us.size).map fun k => us.toList.reverse.getD k .none := by
    have fm : ∀ (f : Nat → Option Value) (g : Nat → Value) (l : List Nat), (∀ k ∈ l, f k = some (g k)) → l.filterMap f = l.map g := fun f g l => by
      induction l with
      | nil => intro _; rfl
      | cons a l ih =>
        intro h
        rw [List.filterMap_cons, h a List.mem_cons_self, List.map_cons, ih fun k hk => h k (List.mem_cons_of_mem _ hk)]
    exact fm _ _ _ fun k hk => e k (List.mem_range.mp hk)
  rw [e2, List.getElem?_map]
  by_cases h : i < us.size
  · rw [List.getElem?_range h, List.getElem?_eq_getElem (by simpa using h)]
    simp [h]
  · rw [List.getElem?_eq_none (by simpa using h), List.getElem?_eq_none (by simpa using h)]
    rfl
section
variable {P : Program} {w : World} {A : Around} {E : Value → Shared → Prop} {s : Shared}
theorem applied_rev {sl : Addr} {vs : Value} {n : Nat} {Q : Int × Int × Nat → Shared → Prop} (hs : s.heap.IsSliceOf sl .none .none vs) (pv : IsPart vs (some (-1))) (h : Q ((n : Int) - 1, -1, n) s) :
    wpAny (model P w) A (Builtin.Slice.sliceApplied (.ref sl) (pure (n : Int))) Q E s := by
  obtain ⟨o, e1, e2, e3⟩ := id hs
  unfold Builtin.Slice.sliceApplied Builtin.Slice.sliceFields
  refine wpAny_bind (wpAny_bind (wpAny_field e1 e3 (x := .none) rfl (wpAny_bind (wpAny_field e1 e3 (x := .none) rfl (wpAny_bind (wpAny_field e1 e3 (x := vs) rfl (wpAny_pure ?_)))))))
  refine wpAny_bind (HT.slicePart_ pv ?_)
  show wpAny _ _ (if ((-1 : Int) == 0) = true then _ else _) _ _ s
  rw [if_neg (by decide)]
  refine wpAny_bind (HT.slicePart_ .none (wpAny_bind (HT.slicePart_ .none (wpAny_bind (wpAny_pure ?_)))))
  have e4 : Builtin.Slice.sliceAdjust none none (-1) (n : Int) = ((n : Int) - 1, -1) := rfl
  have e5 : Builtin.Slice.slicePlaces ((n : Int) - 1) (-1) (-1) = n := by
    show (if (-1 : Int) > 0 then (if (n : Int) - 1 < -1 then (-1 - ((n : Int) - 1) - 1) / -1 + 1 else 0) else (if (n : Int) - 1 > -1 then ((n : Int) - 1 - -1 - 1) / (- -1) + 1 else 0)).toNat = n
    rw [if_neg (by decide), show (- -1 : Int) = 1 from rfl, Int.ediv_one]
    split <;> omega
  show wpAny _ _ (match Builtin.Slice.sliceAdjust none none (-1) (n : Int) with | (lo, hi) => pure (lo, (-1 : Int), Builtin.Slice.slicePlaces lo hi (-1))) _ _ s
  rw [e4]
  show wpAny _ _ (pure (((n : Int) - 1), (-1 : Int), Builtin.Slice.slicePlaces ((n : Int) - 1) (-1) (-1))) _ _ s
  rw [e5]
  exact wpAny_pure h
theorem item_rev {t sl : Addr} {us : Array Value} {vs : Value} {Q : Value → Shared → Prop} (ht : IsTup s.heap t us) (hs : s.heap.IsSliceOf sl .none .none vs) (pv : IsPart vs (some (-1)))
    (h : Q (.ref s.heap.objs.size) { s with heap := s.heap.push { cls := .type "tuple", data := .seq us.toList.reverse.toArray } }) (hz : us.size ≤ sizeLine) : wpAny (model P w) A (getItem (.ref t) (.ref sl)) Q E s := by
  have sz : sizeOk (.seq us.toList.reverse.toArray) := by
    show us.toList.reverse.toArray.size ≤ sizeLine
    rw [List.size_toArray, List.length_reverse, Array.length_toList]
    exact hz
  obtain ⟨o, e1, e2, e3⟩ := id hs
  have ts : s.TypeIs (.ref sl) "slice" := ⟨o, e1, e2⟩
  unfold getItem
  try with_reducible refine wpAny_holding ?_
  first | refine wpAny_bind (wpAny_pure ?_) | skip
  refine wpAny_bind (wpAny_sequenceKey ht.typeIs (by decide) (wpAny_bind (wpAny_callSpecial?_slot (name := Str.ofString "__getitem__") ht.typeIs PyProof.Rows.slot_tuple_getitem (wpAny_call_entry PyProof.Rows.slot_tuple_getitem ht.typeIs PyProof.Rows.entry_tuple_getitem ?_ (PyProof.Rows.args_tuple_getitem _ _)))))
  show wpAny _ _ (Builtin.Tuple.tupleItemsOf (.ref t) >>= _) _ _ s
  refine wpAny_bind (PyProof.Rows.tupleItemsOf_ ht (wpAny_bind (wpAny_typeOf ts ?_)))
  rw [if_pos (by decide)]
  refine wpAny_bind (applied_rev hs pv ?_)
  have no : ¬ ((((us.size : Int) - 1 == 0 && (-1 : Int) == 1) && us.size == us.size) = true) := by
    rw [show ((-1 : Int) == 1) = false from rfl, Bool.and_false, Bool.false_and]
    decide
  show wpAny _ _ (if (((us.size : Int) - 1 == 0 && (-1 : Int) == 1) && us.size == us.size) = true then _ else _) _ _ s
  rw [if_neg no, rev_pick]
  first
    | exact wpAny_bind (m := Builtin.Tuple.tupleExact _) (wpAny_newObj_type (wpAny_pure ⟨_, rfl, wpAny_pure h⟩) sz)
    | exact wpAny_bind (m := Builtin.Tuple.tupleExact _) (wpAny_newObj_type (wpAny_bind (wpAny_pure (wpAny_pure ⟨_, rfl, wpAny_pure h⟩))) sz)
    | exact wpAny_bind (wpAny_bind (m := Builtin.Tuple.tupleExact _) (wpAny_newObj_type (wpAny_pure (wpAny_pure ⟨_, rfl, wpAny_pure h⟩)) sz))
    | exact wpAny_bind (wpAny_bind (m := Builtin.Tuple.tupleExact _) (wpAny_newObj_type (wpAny_pure ⟨_, rfl, wpAny_pure h⟩) sz))
end
def revO (k : Kd) (xs : List V) : HO := match k with
  | .l => .lst xs.reverse
  | .t => .tup xs.reverse
def tRevK (K : Frag) (te : TE) : TE := fun σ H Q => te σ H fun x H1 => ∃ k a xs, x = .ref a ∧ SqK k K H1 a xs ∧ ∀ p, H1 p = none → Q (.ref p) (upd H1 p (revO k xs))
theorem pe_revK {X : Cx} {e : Expr} {te : TE} {kn : Nat} {p1 p2 p3 pos : Pos} (he : PE X e te) : PE X (.Subscript e (.Slice none none (some (.UnaryOp .USub (.Constant (.int 1) kn p1) p2)) p3) pos) (tRevK X.K te) := by
  obtain ⟨run0⟩ := pe_revL (k := kn) (p1 := p1) (p2 := p2) (p3 := p3) (pos := pos) he
  have step : PO X (some (.UnaryOp .USub (.Constant (.int 1) kn p1) p2)) (tPart (tUn (rU fun i => .int (-i)) (tC (.int 1)))) := po_some (pe_un un_neg pe_int)
  refine ⟨fun pins s σ H Q I h => Subscript_ (thn (he.run pins s σ H _ I h) fun v s1 ⟨x, H1, I1, r1, q1⟩ => ?_)⟩
  obtain ⟨k, a, xs, rfl, hx, q⟩ := q1
  cases r1
  refine wpAny_Slice (thn (po_none.run pins s1 σ H1 (fun o G => o = none ∧ G = H1) I1 ⟨rfl, rfl⟩) fun vl s2 ⟨l, H2, I2, pl, el, e2⟩ => ?_)
  subst el e2
  refine thn (po_none.run pins s2 σ H2 (fun o G => o = none ∧ G = H2) I2 ⟨rfl, rfl⟩) fun vu s3 ⟨u, H3, I3, pu, eu, e3⟩ => ?_
  subst eu e3
  refine thn (step.run pins s3 σ H3 (fun o G => o = some (-1) ∧ G = H3) I3 ⟨1, rfl, -1, rfl, rfl, rfl⟩) fun vs s4 ⟨o, H4, I4, ps, eo, e4⟩ => ?_
  subst eo e4
  have I5 : Inv X pins σ H4 { s4 with heap := s4.heap.push { cls := .type "slice", data := .fields #[vl, vu, vs] } } := I4.kept (t' := s4.toks) fun b ob z => Heap.get?_push_of_some _ z
  have sl0 := Heap.IsSliceOf.new s4.heap vl vu vs
  have ul : vl = .none := by cases pl; rfl
  have uu : vu = .none := by cases pu; rfl
  subst ul uu
  show wpAny (model X.prog X.w) X.A (subscriptTail e (.Slice none none (some (.UnaryOp .USub (.Constant (.int 1) kn p1) p2)) p3) (.ref a) (.ref s4.heap.objs.size)) (EP X pins σ Q) X.xe { s4 with heap := s4.heap.push { cls := .type "slice", data := .fields #[.none, .none, vs] } }
  cases k with
  | l =>
    obtain ⟨its, r, ht, hz⟩ := I5.list hx
    have hlen := r.length
    refine tail_any (ops := [.ref a, .ref s4.heap.objs.size]) ht.isList.typeIs (PySem.slot_list_getitem.lookup) (wpAny_getItem_list_slice ht.isList sl0 pl pu ps (by decide) ?_ (by rw [List.size_toArray]; omega)) (by with_unfolding_all rfl)
    rw [PySem.W.krv_pick]
    exact ⟨.ref _, _, I5.laid (t' := s4.toks) (o := .lst xs.reverse) (fun b ob z => Heap.get?_push_of_some _ z) (Nat.le_refl _) ⟨by rw [List.length_reverse]; exact hz, _, 0, r.reverse, Heap.get?_push_size _ rfl⟩, rfl, q _ (I5.hok.fresh (Nat.le_refl _))⟩
  | t =>
    obtain ⟨its, r, ht, hz⟩ := I5.tuple hx
    have hlen := r.length
    refine tail_any (ops := [.ref a, .ref s4.heap.objs.size]) ht.typeIs PyProof.Rows.slot_tuple_getitem.lookup (item_rev ht sl0 ps ?_ (by rw [List.size_toArray]; omega)) (by with_unfolding_all rfl)
    exact ⟨.ref _, _, I5.laid (t' := s4.toks) (o := .tup xs.reverse) (fun b ob z => Heap.get?_push_of_some _ z) (Nat.le_refl _) ⟨by rw [List.length_reverse]; exact hz, _, r.reverse, IsTup.new _ _⟩, rfl, q _ (I5.hok.fresh (Nat.le_refl _))⟩
def gRevD : D → Option D
  | .list ds => some (.list ds.reverse)
  | .tuple ds => some (.tuple ds.reverse)
  | _ => none
def dRevD (f : Den D) : Den D := fun ρ => (f ρ).bind fun d r => lift (gRevD d) r
theorem dqAll_rev {K : Frag} {G : Hp} : ∀ {xs : List V} {ds : List D}, DqAll K G xs ds → DqAll K G xs.reverse ds.reverse := fun {xs ds} h => by
  have app : ∀ {as bs : List V} {cs es : List D}, DqAll K G as cs → DqAll K G bs es → DqAll K G (as ++ bs) (cs ++ es) := fun {as bs cs es} h1 h2 => by
    induction as generalizing cs with
    | nil => cases h1; exact h2
    | cons a as ih =>
      cases h1 with
      | cons q t => exact .cons q (ih t)
  induction xs generalizing ds with
  | nil => cases h; exact .nil
  | cons x xs ih =>
    cases h with
    | cons q t =>
      rw [List.reverse_cons, List.reverse_cons]
      exact app (ih t) (.cons q .nil)
theorem je_rev {X : Cx} {xi : XI} {E : XK} {ms : List (Md X.K)} {e : Expr} {f : Den D} {kn : Nat} {p1 p2 p3 pos : Pos} (h : JE X xi E ms e (mP X.K) f) :
    JE X xi E ms (.Subscript e (.Slice none none (some (.UnaryOp .USub (.Constant (.int 1) kn p1) p2)) p3) pos) (mP X.K) (dRevD f) := by
  obtain ⟨t, p, h⟩ := h.run
  refine ⟨_, pe_revK p, fun G H σ ρ F Q e q => h G H σ ρ F _ e ?_⟩
  unfold dRevD at q
  cases hf : f ρ with
  | stuck => rw [hf] at q; exact q
  | exc c ds r => rw [hf] at q; exact q
  | ok d r =>
    rw [hf] at q
    intro G1 H1 F1 v T x1 e1 hv hT
    have hq := hv.1
    unfold lift gRevD at q
    cases d with
    | list ds =>
      obtain ⟨a, xs, rfl, q1, q2⟩ := hq.lst_inv
      refine ⟨.l, a, xs, rfl, .inl (.inl (e1.sub _ _ q1)), fun p np => ?_⟩
      have gr : Grow G1 H1 (upd G1 p (.lst xs.reverse)) (upd H1 p (.lst xs.reverse)) := Grow.lay e1.sub np
      exact q _ _ F1 (.ref p) (fun _ => False) ((x1.trans (gr.ext _)).weak fun p h => .inl (h.elim id fun z => z.elim)) (e1.grow gr) ⟨.lst upd_same ((dqAll_rev q2).same (same_up (e1.sub.free np))), fun _ z => z⟩ fun _ z => z.elim
    | tuple ds =>
      obtain ⟨a, xs, rfl, q1, q2⟩ := hq.tup_inv
      refine ⟨.t, a, xs, rfl, sqT_same e1.sub q1, fun p np => ?_⟩
      have gr : Grow G1 H1 (upd G1 p (.tup xs.reverse)) (upd H1 p (.tup xs.reverse)) := Grow.lay e1.sub np
      exact q _ _ F1 (.ref p) (fun _ => False) ((x1.trans (gr.ext _)).weak fun p h => .inl (h.elim id fun z => z.elim)) (e1.grow gr) ⟨.tup (.inl (.inl upd_same)) ((dqAll_rev q2).same (same_up (e1.sub.free np))), fun _ z => z⟩ fun _ z => z.elim
    | _ => exact q.elim
end Dn


set_option maxHeartbeats 2000000
/-! Dn14: calls by names. -/
namespace Dn
open PySem PySem.Spec PyProof.Rows L2
/-- where a parameter's value comes from: written, by name, a default, a default of a keyword-only one -/
inductive Sr where
  | u (i : Nat) | w (i : Nat) | d (i : Nat) | m (i : Nat)
def sr1 {α : Type} (a b c d : List α) : Sr → Option α
  | .u i => a[i]?
  | .w i => b[i]?
  | .d i => c[i]?
  | .m i => d[i]?
def pk {α : Type} : List Sr → List α → List α → List α → List α → List α
  | [], _, _, _, _ => []
  | s :: p, a, b, c, d => match sr1 a b c d s with
    | some x => x :: pk p a b c d
    | none => pk p a b c d
/-! ### what such a call binds -/
/-! ### the rule -/
structure JK (X : Cx) (xi : XI) (E : XK) (ms : List (Md X.K)) (kws : List Keyword) (ks : List Ok) (f : Den (List D)) : Prop where
  run : ∃ t : TA, PK X kws t ∧ ∀ (G H : Hp) (σ : L2.St) (ρ : Rho) (F : Nat → Fp) (Q : List V → Hp → Prop), EnvOk ms G H σ ρ F → PostA xi E ms ks σ G H F Q (f ρ) → t σ H Q
section
variable {X : Cx} {xi : XI} {E : XK} {ms : List (Md X.K)}
structure CalK (P : Program) (w : World) (K : Frag) (mg : Str → Option Value) (base : Heap) (k : Nat) (x : Str) (sp : Sp) (n : Nat) (ks : List Str) (p : List Sr) (dvs mvs : List V) : Prop where
  ex : ∃ (f : Addr) (fd : FuncData) (ps : List Str) (its mv : List Value), FnOk P w K mg base (L2.CX P w) k f fd ps sp ∧ mg x = some (.ref f) ∧ PySem.W.keepIn K (.ref f) = true ∧ KBn K fd ps n ks (fun us ws => pk p us ws its mv) fun vs zs => pk p vs zs dvs mvs
variable {k j n N : Nat} {x : Str} {rm : Md X.K} {f : Fn} {p : List Sr} {dds mds : List D} {dvs mvs : List V} {fa fk : Den (List D)} {e : Expr} {es : List Expr} {kws : List Keyword} {ks : List Str} {pn pos : Pos}
end
end Dn


set_option maxHeartbeats 2000000
/-! Dn15: new lists of one's own out of operators and slices. -/
namespace Dn
open PySem PySem.Spec PyProof.Rows L2
def OpL (K : Frag) (r : R2) (g : D → D → Option (List D)) : Prop := ∀ (G H : Hp) (v w : V) (d e : D) (xs : List D) (Q : VK), Same G H → Vw K G H v d → Vw K G H w e → g d e = some xs →
  (∀ p ws, H p = none → DqAll K G ws xs → Q (.ref p) (upd H p (.lst ws))) → r v w H Q
def gCatL : D → D → Option (List D)
  | .list xs, .list ys => if xs.length + ys.length ≤ lim then some (xs ++ ys) else none
  | _, _ => none
def gRepL : D → D → Option (List D)
  | .list xs, .int k => if xs.length * k.toNat ≤ lim ∧ k.natAbs ≤ lim then some (List.replicate k.toNat xs).flatten else none
  | _, _ => none
theorem s_catL {K : Frag} : OpL K rCat gCatL := fun G H v w d e x Q s hv hw hg q => by
  unfold gCatL at hg
  split at hg
  · split at hg
    · rename_i hl
      cases hg
      obtain ⟨a, xs, rfl, h1, h2⟩ := hv.lst s
      obtain ⟨b, ys, rfl, h3, h4⟩ := hw.lst s
      exact ⟨a, b, xs, ys, rfl, rfl, h1, h3, by rw [h2.len, h4.len]; exact lim_size hl, fun p np => q p _ np (h2.app h4)⟩
    · cases hg
  · cases hg
theorem s_repL {K : Frag} : OpL K rRep gRepL := fun G H v w d e x Q s hv hw hg q => by
  unfold gRepL at hg
  split at hg
  · split at hg
    · rename_i k hl
      cases hg
      obtain ⟨a, vs, rfl, h1, h2⟩ := hv.lst s
      have l1 : k.natAbs ≤ 1000000 := hl.2
      exact ⟨a, k, vs, rfl, hw.int, h1, by omega, by omega, by rw [h2.len]; exact lim_size hl.1, fun p np => q p _ np (h2.rep (v := .non) _)⟩
    · cases hg
  · cases hg
def dOpL (k1 k2 : Ok) (g : D → D → Option (List D)) (f1 f2 : Den D) : Den D := fun ρ => (f1 ρ).bind fun d1 r1 => (f2 r1).bind fun d2 r2 => res k1 d1 r2 fun x => res k2 d2 r2 fun y => lift ((g x y).map .list) r2
section
variable {X : Cx} {xi : XI} {E : XK} {ms : List (Md X.K)} {pos p2 : Pos} {a b e : Expr} {k1 k2 k : Ok} {f1 f2 f : Den D} {g : D → D → Option (List D)} {r : R2} {lo hi : Option Expr} {fl fh : Den (Option Int)}
theorem je_opL {op : Operator} (ho : OpR X (binaryOp op) r) (s : OpL X.K r g) (h1 : JV X xi E ms a k1 f1) (h2 : JV X xi E ms b k2 f2)
    (l1 : Lv ms k1 := by first | exact lvN | exact lvS lv_L rfl | exact lvS (lv_At lv_L) rfl) (l2 : Lv ms k2 := by first | exact lvN | exact lvS lv_L rfl | exact lvS (lv_At lv_L) rfl) : JE X xi E ms (.BinOp a op b pos) (mL X.K) (dOpL k1 k2 g f1 f2) := by
  obtain ⟨t1, p1, r1⟩ := h1.run
  obtain ⟨t2, p2, r2⟩ := h2.run
  refine ⟨_, pe_op ho p1 p2, fun G H σ ρ F Q e q => r1 G H σ ρ F _ e ?_⟩
  unfold dOpL at q
  cases hf : f1 ρ with
  | stuck => rw [hf] at q; exact q
  | exc c ds r => rw [hf] at q; exact q
  | ok d1 r1 =>
    rw [hf] at q
    intro G1 H1 F1 v x1 e1 hv
    refine r2 G1 H1 σ r1 F1 _ e1 ?_
    replace q : PostE xi E ms (mL X.K) σ G H F Q ((f2 r1).bind fun d2 r2 => res k1 d1 r2 fun x => res k2 d2 r2 fun y => lift ((g x y).map .list) r2) := q
    cases hg : f2 r1 with
    | stuck => rw [hg] at q; exact q
    | exc c ds r => rw [hg] at q; exact fun G' H' F' cls od b e => q G' H' F' cls od (x1.trans b) e
    | ok d2 r2 =>
      rw [hg] at q
      intro G2 H2 F2 w x2 e2 hw
      replace q : PostE xi E ms (mL X.K) σ G H F Q (res k1 d1 r2 fun x => res k2 d2 r2 fun y => lift ((g x y).map .list) r2) := q
      obtain ⟨d1', v1, q⟩ := vw_res (v := v) (d := d1) (P := PostE xi E ms (mL X.K) σ G H F Q) e2 l1 (hv.same x2.same) q (fun z => z)
      obtain ⟨d2', v2, q⟩ := vw_res (v := w) (d := d2) (P := PostE xi E ms (mL X.K) σ G H F Q) e2 l2 hw q (fun z => z)
      cases hx : g d1' d2' with
      | none => rw [hx] at q; exact q.elim
      | some x =>
        rw [hx] at q
        exact s G2 H2 v w d1' d2' x _ e2.sub v1 v2 hx fun p ws np ha => own_lst q (x1.trans x2) e2 np ha
/-- a part of a list, as a list of one's own -/
def gSlL (lo hi : Option Int) : D → Option (List D)
  | .list ds => some (cut ds lo hi)
  | _ => none
def dSlL (k : Ok) (f : Den D) (lo hi : Den (Option Int)) : Den D := fun ρ => (f ρ).bind fun d r => (lo r).bind fun l r1 => (hi r1).bind fun h r2 => res k d r2 fun d' => lift ((gSlL l h d').map .list) r2
theorem je_slL (h1 : JV X xi E ms a k f) (h2 : JO X xi E ms lo fl) (h3 : JO X xi E ms hi fh) (l1 : Lv ms k := by first | exact lvN | exact lvS lv_L rfl | exact lvS (lv_At lv_L) rfl) : JE X xi E ms (.Subscript a (.Slice lo hi none p2) pos) (mL X.K) (dSlL k f fl fh) := by
  obtain ⟨t1, p1, r1⟩ := h1.run
  obtain ⟨t2, p2, r2⟩ := h2.run
  obtain ⟨t3, p3, r3⟩ := h3.run
  refine ⟨_, pe_slice sl_list p1 p2 p3, fun G H σ ρ F Q e q => r1 G H σ ρ F _ e ?_⟩
  unfold dSlL at q
  cases hf : f ρ with
  | stuck => rw [hf] at q; exact q
  | exc c ds r => rw [hf] at q; exact q
  | ok d r =>
    rw [hf] at q
    intro G1 H1 F1 v x1 e1 hv
    refine r2 G1 H1 σ r F1 _ e1 ?_
    replace q : PostE xi E ms (mL X.K) σ G H F Q ((fl r).bind fun l r1 => (fh r1).bind fun h r2 => res k d r2 fun d' => lift ((gSlL l h d').map .list) r2) := q
    cases hl : fl r with
    | stuck => rw [hl] at q; exact q
    | exc c ds r => rw [hl] at q; exact fun G' H' F' cls od b e => q G' H' F' cls od (x1.trans b) e
    | ok l r1 =>
      rw [hl] at q
      intro G2 H2 F2 x2 e2
      refine r3 G2 H2 σ r1 F2 _ e2 ?_
      replace q : PostE xi E ms (mL X.K) σ G H F Q ((fh r1).bind fun h r2 => res k d r2 fun d' => lift ((gSlL l h d').map .list) r2) := q
      cases hh : fh r1 with
      | stuck => rw [hh] at q; exact q
      | exc c ds r => rw [hh] at q; exact fun G' H' F' cls od b e => q G' H' F' cls od ((x1.trans x2).trans b) e
      | ok h r2 =>
        rw [hh] at q
        intro G3 H3 F3 x3 e3
        replace q : PostE xi E ms (mL X.K) σ G H F Q (res k d r2 fun d' => lift ((gSlL l h d').map .list) r2) := q
        obtain ⟨d', w, q⟩ := vw_res (v := v) (d := d) (P := PostE xi E ms (mL X.K) σ G H F Q) e3 l1 (hv.same (x2.same.trans x3.same)) q (fun z => z)
        cases d' with
        | list ds =>
          obtain ⟨a, xs, rfl, h1, h2⟩ := w.lst e3.sub
          exact ⟨a, xs, rfl, .inl (.inl h1), fun p np => own_lst q ((x1.trans x2).trans x3) e3 np (cut_all h2 l h)⟩
        | _ => exact q.elim
end
/-! ### x += e, x -= e of ints -/
/-! ### in -/
def flatD : D → Bool
  | .none => true
  | .bool _ => true
  | .int _ => true
  | .str _ => true
  | _ => false
def vof : D → V
  | .bool b => .bl b
  | .int i => .int i
  | .str x => .str x
  | _ => .non
theorem dq_flat {K : Frag} {G : Hp} {v : V} {d : D} (h : Dq K G v d) (f : flatD d = true) : v = vof d ∧ flatV v = true := by
  cases h with
  | lst _ _ => cases f
  | tup _ _ => cases f
  | _ => exact ⟨rfl, rfl⟩
theorem dqAll_flat {K : Frag} {G : Hp} : ∀ {xs : List V} {ds : List D}, DqAll K G xs ds → ds.all flatD = true → xs = ds.map vof ∧ xs.all flatV = true
  | [], _, h, _ => by
    cases h
    exact ⟨rfl, rfl⟩
  | x :: xs, d :: ds, h, f => by
    rw [List.all_cons, Bool.and_eq_true] at f
    cases h with
    | cons q t =>
      obtain ⟨e1, f1⟩ := dq_flat q f.1
      obtain ⟨e2, f2⟩ := dqAll_flat t f.2
      exact ⟨by rw [e1, e2]; rfl, by rw [List.all_cons, f1, f2]; rfl⟩
def gInB (d e : D) : Option Bool := match gSq e with
  | some es => if flatD d = true ∧ es.all flatD = true then some (inV (vof d) (es.map vof)) else none
  | none => none
def gIn (d e : D) : Option D := (gInB d e).map .bool
def gNotIn (d e : D) : Option D := (gInB d e).map fun b => .bool (!b)
theorem vw_sq {K : Frag} {G H : Hp} {w : V} {e : D} {es : List D} (s : Same G H) (h : Vw K G H w e) (q : gSq e = some es) : ∃ a xs, w = .ref a ∧ (SqL K H a xs ∨ SqT K H a xs) ∧ DqAll K G xs es := by
  cases e with
  | list ds =>
    cases q
    obtain ⟨a, xs, rfl, h1, h2⟩ := h.lst s
    exact ⟨a, xs, rfl, .inl (.inl (.inl h1)), h2⟩
  | tuple ds =>
    cases q
    obtain ⟨a, xs, rfl, h1, h2⟩ := h.tup
    exact ⟨a, xs, rfl, .inr (sqT_same s h1), h2⟩
  | _ => cases q
theorem in_core {K : Frag} {G H : Hp} {v w : V} {d e : D} {b : Bool} (s : Same G H) (hv : Vw K G H v d) (hw : Vw K G H w e) (h : gInB d e = some b) : ∃ p xs, w = .ref p ∧ (SqL K H p xs ∨ SqT K H p xs) ∧ flatV v = true ∧ xs.all flatV = true ∧ inV v xs = b := by
  unfold gInB at h
  split at h
  · rename_i es hes
    split at h
    · rename_i hf
      cases h
      obtain ⟨a, xs, rfl, hq, t⟩ := vw_sq s hw hes
      have hv2 : v = vof d ∧ flatV v = true := by
        cases hv with
        | own _ _ => exact absurd hf.1 (by simp [flatD])
        | pure q => exact dq_flat q hf.1
      obtain ⟨e2, f2⟩ := dqAll_flat t hf.2
      exact ⟨a, xs, rfl, hq, hv2.2, f2, by rw [hv2.1, e2]⟩
    · cases h
  · cases h
theorem s_in {K : Frag} : OpS K (rIn K false) gIn := fun G H v w d e x Q s hv hw hg q => by
  unfold gIn at hg
  cases hb : gInB d e with
  | none => rw [hb] at hg; cases hg
  | some b =>
    rw [hb] at hg
    cases hg
    obtain ⟨p, xs, rfl, h1, h2, h3, h4⟩ := in_core s hv hw hb
    refine ⟨p, xs, rfl, h1, h2, h3, ?_⟩
    rw [h4]
    exact grow0 s (.bl _) q
theorem s_notIn {K : Frag} : OpS K (rIn K true) gNotIn := fun G H v w d e x Q s hv hw hg q => by
  unfold gNotIn at hg
  cases hb : gInB d e with
  | none => rw [hb] at hg; cases hg
  | some b =>
    rw [hb] at hg
    cases hg
    obtain ⟨p, xs, rfl, h1, h2, h3, h4⟩ := in_core s hv hw hb
    refine ⟨p, xs, rfl, h1, h2, h3, ?_⟩
    rw [h4]
    exact grow0 s (.bl _) q
/-! ### a < b < c of ints -/
end Dn


set_option maxHeartbeats 2000000
/-! Dn16: pop. -/
namespace Dn
open PySem PySem.Spec PyProof.Rows L2
end Dn


set_option maxHeartbeats 2000000
/-! Dn17: zip that asks for one length. -/
namespace Dn
open PySem PySem.Spec PyProof.Rows L2
abbrev IsZs (h : Heap) (z TI TO : Addr) (f0 : Value) : Prop :=
  h.get? z = some { cls := .type "zip", dict := none, data := .fields #[f0, .bool false, .bool true, .ref TI, .ref TO], slots := #[] }
section
variable {P : Program} {w : World} {A : Around} {E : Value → Shared → Prop} {s : Shared}
/-- one draw -/
theorem drawn {it : Addr} {fp : List Addr} {n i : Nat} {Pr : Nat → Value → Prop} {St : Nat → Heap → Prop} {Q : Option Value → Shared → Prop} (D : Draws P w A it fp n Pr St) (hi : i < n) (st : St i s.heap)
    (h : ∀ x h' tk, Pr i x → St (i + 1) h' → Heap.SameBut it s.heap h' → Q (some x) { s with heap := h', toks := tk }) : wpAny (model P w) A (Builtin.SmallTypes.nextOrEnd (.ref it)) Q E s := by
  unfold Builtin.SmallTypes.nextOrEnd
  exact wpAny_bind (wpAny_attempt (D.item i s _ _ hi st fun x h' tk a b c => wpAny_pure (h x h' tk a b c)))
end
structure ZpS (k1 k2 : Kd) (a b z TI TO i1 i2 : Addr) (i : Nat) (h : Heap) : Prop where
  z : IsZs h z TI TO .none
  ti : IsPair h TI (.ref i1) (.ref i2)
  to_ : ∃ x y, IsPair h TO x y
  r1 : IrK k1 h i1 a i
  r2 : IrK k2 h i2 b i
end Dn


set_option maxHeartbeats 2000000
/-! Dn18: x[k] as a target among others. -/
namespace Dn
open PySem PySem.Spec PyProof.Rows L2
def ixAt (i : Nat) (d k : D) (r : Rho) : Option Rho := match r[i]? with
  | some (some l) => (gSetIx l k d).map fun l' => r.set i (some l')
  | _ => none
def tIx (i : Nat) (fk : Den D) : Tg := fun d ρ => match ρ[i]? with
  | some (some _) => (match fk ρ with
    | .ok k r => ixAt i d k r
    | _ => none)
  | _ => none
theorem jg_ix {X : Cx} {ms : List (Md X.K)} (i : Nat) {m : Md X.K} {k : Expr} {x : Str} {px p2 : Pos} {fk : Den D} (hk : JE X (fun _ _ _ _ _ => False) L2.E0 ms k (mP X.K) fk) (lo : LOwn m) (hm : ms[i]? = some m := by rfl) (hN : X.N[i]? = some x := by rfl)
    (hv : Vis X.env.scope x := by first | exact Or.inl rfl | exact Or.inr (Or.inl rfl) | exact Or.inr (Or.inr rfl)) (hd : (x == ("__debug__" : Str)) = false := by decide) (hcd : (x == ("__classdict__" : Str)) = false := by decide)
    (ha : ∀ v, assign (.Subscript (.Name x px) k p2) X.env v = (do
      let ov ← holding [v] (eval (.Name x px) X.env)
      let iv ← holding [v, ov] (eval k X.env)
      standAt p2
      holding [v, ov, iv] (setItem ov iv v)
      release [v, ov, iv] []) := by intro _; rfl) : JG X ms (.Subscript (.Name x px) k p2) ms [] (tIx i fk) := by
  obtain ⟨t2, pk, hk⟩ := hk.run
  refine ⟨_, pg_sub (pe_var hN hv hd hcd) pk set_list ha, fun G H σ ρ F v d Q e1 hv q => ?_⟩
  unfold tIx at q
  split at q
  · rename_i l hl
    obtain ⟨vo, ho, _⟩ := e1.get hm hl
    refine ⟨vo, ho, hk G H σ ρ F _ e1 ?_⟩
    cases hk2 : fk ρ with
    | stuck => rw [hk2] at q; exact q.elim
    | exc c ds r2 => rw [hk2] at q; exact q.elim
    | ok kd r2 =>
      rw [hk2] at q
      intro G2 H2 F2 kv T2 x2 e2 hk3 _
      have x2 := x2.weak (V' := Un F2) fun _ z => .inl z
      replace q : PostG ms [] σ G H F Q (ixAt i d kd r2) := q
      unfold ixAt at q
      split at q
      · rename_i l2 hl2
        obtain ⟨a, vs, ds, h3, rfl, h5, h6, h7⟩ := e2.relist lo hm hl2
        rw [ho] at h3
        cases h3
        cases hg : gSetIx (.list ds) kd d with
        | none => rw [hg] at q; exact q.elim
        | some l' =>
          rw [hg] at q
          cases kd with
          | int k' =>
            have hg : (match ixN ds.length k' with
              | some j => some (PyData.list (ds.set j d))
              | none => none) = some l' := hg
            split at hg
            · rename_i j hj
              cases hg
              obtain ⟨e3, x3⟩ := h7 (vs.set j v) (ds.set j d) (h6.set (hv.same x2.same))
              exact ⟨a, vs, k', j, rfl, hk3.1.int_inv, h5, by rw [h6.len]; exact hj, q G2 _ F2 σ (x2.trans x3) e3 (fun _ _ => rfl) rfl⟩
            · cases hg
          | _ => cases hg
      · exact q.elim
  · exact q.elim
end Dn


set_option maxHeartbeats 2000000
/-! Dn19: f(). -/
namespace Dn
open PySem PySem.Spec PyProof.Rows L2
end Dn


set_option maxHeartbeats 4000000
/-! Dn20: a tuple some times. -/
namespace Dn
open PySem PySem.Spec PyProof.Rows L2
theorem tuple_mul1 (l : Addr) (items : Array Value) (n : Nat) (dd : Option Addr) (sl : Array (Option Value)) (u : Tok) :
    Meets (Builtin.«tuple.__mul__» ⟨[.ref l, .int 1 u], []⟩) (fun _ R s => s.heap.get? l = some { cls := .type "tuple", dict := dd, data := .seq items n, slots := sl } ∧
      R (.ok (.ret (Value.ref l))) s) :=
  .of_wp fun prog w A R s h => by
    obtain ⟨hp, g, d, tk, os⟩ := s
    obtain ⟨hl, h⟩ := h
    have f1 := AutoSeq1.idx_int
    have c1 : (items.isEmpty || (1 : Int) == 1) = true := by simp
    wp_walk using wpAny_loadPart' hl
    repeat (first
      | (refine wpAny_ite_false (decide_eq_false (by decide)) ?_; wp_walk using wpAny_loadPart' hl)
      | (refine wpAny_ite_true (decide_eq_true c1) ?_; wp_walk using wpAny_loadPart' hl))
    exact ⟨_, rfl, h⟩
theorem tuple_mul0 (l : Addr) (items : Array Value) (n : Nat) (dd : Option Addr) (sl : Array (Option Value)) (x : Int) (u : Tok) (c0 : (decide (x < -(2 ^ 63)) || decide (x ≥ 2 ^ 63)) = false) (c1 : (items.isEmpty || x == 1) = false) (c2 : (decide (x ≤ 0) || items.isEmpty) = true) :
    Meets (Builtin.«tuple.__mul__» ⟨[.ref l, .int x u], []⟩) (fun _ R s => s.heap.get? l = some { cls := .type "tuple", dict := dd, data := .seq items n, slots := sl } ∧
      R (.ok (.ret (Value.ref s.heap.objs.size))) { s with heap := s.heap.push { cls := Value.type "tuple", data := Data.seq #[] }, toks := s.toks }) :=
  .of_wp fun prog w A R s h => by
    obtain ⟨hp, g, d, tk, os⟩ := s
    obtain ⟨hl, h⟩ := h
    have f1 := AutoSeq1.idx_int
    wp_walk using wpAny_loadPart' hl
    repeat (first
      | (refine wpAny_ite_false (decide_eq_false (by rw [c0]; exact Bool.false_ne_true)) ?_; wp_walk using wpAny_loadPart' hl)
      | (refine wpAny_ite_false (decide_eq_false (by rw [c1]; exact Bool.false_ne_true)) ?_; wp_walk using wpAny_loadPart' hl)
      | (refine wpAny_ite_true (decide_eq_true c2) ?_; wp_walk using wpAny_loadPart' hl))
    exact ⟨_, rfl, h⟩
def rRepA (K : Frag) : R2 := fun x y H Q => ∃ l k xs, x = .ref l ∧ y = .int k ∧ SqT K H l xs ∧ xs ≠ [] ∧ -1000 ≤ k ∧ k ≤ 1000 ∧ xs.length ≤ 1000 ∧ (k = 1 → Q (.ref l) H) ∧ (k ≠ 1 → ∀ p, H p = none → Q (.ref p) (upd H p (.tup (List.replicate k.toNat xs).flatten)))
theorem op_rep1 {X : Cx} : OpR X (binaryOp .Mult) (fun x y H Q => ∃ l xs, x = .ref l ∧ y = .int 1 ∧ SqT X.K H l xs ∧ xs ≠ [] ∧ Q (.ref l) H) := by
  intro pins s σ H x y v u Q I rx ry h
  obtain ⟨l, xs, rfl, rfl, hT, hne, q⟩ := h
  cases rx
  obtain ⟨t, rfl⟩ := ry
  obtain ⟨its, r, ⟨⟨cls, dd, data, sl⟩, ho, hc, n, hd⟩, hs⟩ := I.tuple hT
  simp only at hc hd
  subst hc hd
  refine wpAny_binaryOp_repeat_ref (T := "tuple") (U := "int") (by decide) ⟨_, ho, rfl⟩ (fun s' => typeIs_int s' 1 t) noFill_tuple_mul F.fills_int_mul F.slot_int_rmul repeat_tuple F.slot_int_index.lookup
    (call_meets F.slot_int_rmul (typeIs_int s 1 t) F.entry_int_rmul (F.args_int_rmul_2 _ _) (int_rmul_tuple 1 t l its.toArray n dd sl)
      ⟨ho, rfl, ⟨_, ho, rfl⟩, call_meets F.slot_tuple_mul ⟨_, ho, rfl⟩ F.entry_tuple_mul (F.args_tuple_mul_2 _ _) (tuple_mul1 l its.toArray n dd sl t) ⟨ho, ?_⟩⟩)
  exact ⟨.ref l, H, I, rfl, q⟩
theorem op_rep0 {X : Cx} : OpR X (binaryOp .Mult) (fun x y H Q => ∃ l k xs, x = .ref l ∧ y = .int k ∧ SqT X.K H l xs ∧ xs ≠ [] ∧ k ≤ 0 ∧ -1000 ≤ k ∧ ∀ p, H p = none → Q (.ref p) (upd H p (.tup []))) := by
  intro pins s σ H x y v u Q I rx ry h
  obtain ⟨l, k, xs, rfl, rfl, hT, hne, h1, h2, q⟩ := h
  cases rx
  obtain ⟨t, rfl⟩ := ry
  obtain ⟨its, r, ⟨⟨cls, dd, data, sl⟩, ho, hc, n, hd⟩, hs⟩ := I.tuple hT
  simp only at hc hd
  subst hc hd
  have hle : its.length = xs.length := r.length.symm
  have hn : its ≠ [] := fun e => hne (by
    rw [e] at hle
    exact List.eq_nil_of_length_eq_zero hle.symm)
  have hi : its.toArray.isEmpty = false := by
    cases its with
    | nil => exact absurd rfl hn
    | cons a b => rfl
  have c0 : (decide (k < -(2 ^ 63)) || decide (k ≥ 2 ^ 63)) = false := by
    rw [decide_eq_false (by omega), decide_eq_false (by omega)] <;> rfl
  have c1 : (its.toArray.isEmpty || k == 1) = false := by
    rw [hi, Bool.false_or]
    exact beq_eq_false_iff_ne.mpr (by omega)
  have c2 : (decide (k ≤ 0) || its.toArray.isEmpty) = true := by
    rw [decide_eq_true h1, Bool.true_or]
  refine wpAny_binaryOp_repeat_ref (T := "tuple") (U := "int") (by decide) ⟨_, ho, rfl⟩ (fun s' => typeIs_int s' k t) noFill_tuple_mul F.fills_int_mul F.slot_int_rmul repeat_tuple F.slot_int_index.lookup
    (call_meets F.slot_int_rmul (typeIs_int s k t) F.entry_int_rmul (F.args_int_rmul_2 _ _) (int_rmul_tuple k t l its.toArray n dd sl)
      ⟨ho, rfl, ⟨_, ho, rfl⟩, call_meets F.slot_tuple_mul ⟨_, ho, rfl⟩ F.entry_tuple_mul (F.args_tuple_mul_2 _ _) (tuple_mul0 l its.toArray n dd sl k t c0 c1 c2) ⟨ho, ?_⟩⟩)
  refine ⟨.ref s.heap.objs.size, _, I.laid (t' := s.toks) (o := .tup []) (fun b ob q => Heap.get?_push_of_some _ q) (Nat.le_refl _) ?_, rfl, q _ (I.hok.fresh (Nat.le_refl _))⟩
  exact ⟨Nat.zero_le _, [], .nil, IsTup.new _ _⟩
theorem op_repA {X : Cx} : OpR X (binaryOp .Mult) (rRepA X.K) := by
  intro pins s σ H x y v u Q I rx ry h
  obtain ⟨l, k, xs, rfl, rfl, hT, hne, h1, h2, hz, q1, q2⟩ := h
  by_cases e1 : k = 1
  · subst e1
    exact op_rep1 pins s σ H _ _ v u Q I rx ry ⟨l, xs, rfl, rfl, hT, hne, q1 rfl⟩
  · by_cases e0 : k ≤ 0
    · refine op_rep0 pins s σ H _ _ v u Q I rx ry ⟨l, k, xs, rfl, rfl, hT, hne, e0, h1, fun p hp => ?_⟩
      have := q2 e1 p hp
      rw [show k.toNat = 0 by omega] at this
      exact this
    · exact op_repT pins s σ H _ _ v u Q I rx ry ⟨l, k, xs, rfl, rfl, hT, hne, by omega, h2, hz, q2 e1⟩
def gMulT : D → D → Option D
  | .tuple xs, .int k => if xs ≠ [] ∧ -1000 ≤ k ∧ k ≤ 1000 ∧ xs.length ≤ 1000 then some (.tuple (List.replicate k.toNat xs).flatten) else none
  | _, _ => none
theorem s_mulT {K : Frag} : OpS K (rRepA K) gMulT := fun G H v w d e x Q s hv hw hg q => by
  unfold gMulT at hg
  split at hg
  · rename_i xs k
    split at hg
    · rename_i hc
      cases hg
      obtain ⟨a, vs, rfl, h1, h2⟩ := hv.tup
      refine ⟨a, k, vs, rfl, hw.int, sqT_same s h1, fun z => hc.1 ?_, hc.2.1, hc.2.2.1, by rw [h2.len]; exact hc.2.2.2, fun e => ?_, fun _ p np => grow_tup s np (h2.rep (v := .non) _) q⟩
      · subst z
        cases h2
        rfl
      · subst e
        have e2 : (List.replicate (1 : Int).toNat xs).flatten = xs := by show [xs].flatten = xs; simp
        rw [e2] at q
        exact q G H (.ref a) (Grow.refl s) (.tup h1 h2)
    · cases hg
  · cases hg
end Dn


set_option maxHeartbeats 2000000
/-! Dn21: lists changed by methods; own lists lent to an expression that tells no list. -/
namespace Dn
open PySem PySem.Spec PyProof.Rows L2
/-! ### own lists lent -/
/-- a list of one's own, or nothing that may change -/
def FrzM {K : Frag} (m : Md K) : Prop := ∀ G H v d S, m.P G H v d S → ∃ a vs ds, v = .ref a ∧ d = .list ds ∧ H a = some (.lst vs) ∧ G a = none ∧ DqAll K G vs ds ∧ S a
inductive Bor {K : Frag} : List (Md K) → List (Md K) → Prop
  | nil : Bor [] []
  | keep {m : Md K} {ms ms' : List (Md K)} : NoFp m → Bor ms ms' → Bor (m :: ms) (m :: ms')
  | frz {m : Md K} {ms ms' : List (Md K)} : FrzM m → Bor ms ms' → Bor (m :: ms) (mP K :: ms')
theorem Bor.len {K : Frag} {ms ms' : List (Md K)} (b : Bor ms ms') : ms.length = ms'.length := by
  induction b with
  | nil => rfl
  | keep _ _ ih => simp [ih]
  | frz _ _ ih => simp [ih]
theorem Bor.at_ {K : Frag} {ms ms' : List (Md K)} (b : Bor ms ms') : ∀ {i : Nat} {m' : Md K}, ms'[i]? = some m' → ∃ m, ms[i]? = some m ∧ ((m = m' ∧ NoFp m) ∨ (FrzM m ∧ m' = mP K)) := by
  induction b with
  | nil => intro i m' h; simp at h
  | keep h _ ih =>
    intro i m' hi
    cases i with
    | zero => cases hi; exact ⟨_, rfl, .inl ⟨rfl, h⟩⟩
    | succ i => exact ih (i := i) (by simpa using hi)
  | frz h _ ih =>
    intro i m' hi
    cases i with
    | zero => cases hi; exact ⟨_, rfl, .inr ⟨h, rfl⟩⟩
    | succ i => exact ih (i := i) (by simpa using hi)
/-! the heap of what never changes, with one's own lists meanwhile -/
end Dn


set_option maxHeartbeats 2000000
/-! Dn22: a range of every second number. -/
namespace Dn
open PySem PySem.Spec PyProof.Rows L2
end Dn


set_option maxHeartbeats 2000000
/-! Dn23: three names at once; in, where items are of any depth. -/
namespace Dn
open PySem PySem.Spec PyProof.Rows L2
/-! ### in, deep -/
end Dn


set_option maxHeartbeats 2000000
/-! Dn33: repr of any data, in a def that is known to be called with no repr under way. -/
namespace L2
open PySem PySem.Spec PyProof.Rows
section
variable {X : Cx}
def rReprD (K : PySem.W.Frag) : List V → Hp → VK → Prop := fun xs H Q => ∃ (x : V) (d : PyData), xs = [x] ∧ Dp K H x d ∧ PyData.showable d = true ∧ PyData.hasDict d = false ∧ (PyData.shown d).length ≤ sizeLine ∧ PyData.depth d ≤ 60 ∧ Q (.str (PyData.shown d)) H
theorem call_reprD (hg : X.A.guards = some []) (hu : X.A.units + 65 < cLine) : CallR X (.builtin "repr") (rReprD X.K) := by
  intro pins s σ H xs us Q I r h
  obtain ⟨x, d, rfl, hd, h1, h2, h3, h4, q⟩ := h
  obtain ⟨u, rfl, ru⟩ := r.one
  obtain ⟨as, rd⟩ := Dp.reads I d x u hd ru
  have nd : d.hasDict = true → sysModules ∉ as := fun z => by rw [h2] at z; cases z
  have rd' := rd
  have rf : ∀ a, u = .ref a → wpAny (model X.prog X.w) X.A (call (.builtin "repr") [u]) (EP X pins σ Q) X.xe s := fun a e => by
    subst e
    exact PySem.repr_of_reads' rd' h1 nd hg (by omega) (fun _ _ e => e) (fun h' u tk hk => ⟨.str (PyData.shown d), H, I.kept hk, ⟨_, rfl⟩, q⟩) h3
  cases rd with
  | none => exact PySem.P.repr_of_none ⟨.str "None", H, I.tok _, ⟨_, rfl⟩, by simpa only [PyData.shown] using q⟩
  | bool b => exact PySem.P.repr_of_bool ⟨.str (if b then "True" else "False"), H, I.tok _, ⟨_, by cases b <;> rfl⟩, by simpa only [PyData.shown] using q⟩
  | int i t => exact PySem.P.repr_of_int (by simpa [PyData.showable] using h1) ⟨.str (toString i), H, I.tok _, ⟨_, rfl⟩, by simpa only [PyData.shown] using q⟩
  | str y t => exact PySem.P.repr_of_str ⟨.str (reprText y), H, I.tok _, ⟨_, rfl⟩, by simpa only [PyData.shown] using q⟩ (by simpa only [PyData.shown] using h3)
  | _ => exact rf _ rfl
end
end L2
namespace L2
open PySem PySem.Spec PyProof.Rows
/-- as a def's promise, where no repr is under way at the call -/
structure FnG (P : Program) (w : World) (K : PySem.W.Frag) (mg : Str → Option Value) (base : Heap)
    (CX : CXT) (k : Nat) (f : Addr) (fd : FuncData) (ps : List Str) (sp : Sp) : Prop where
  many : ∀ vs H Q E, sp vs H Q E → vs.length = ps.length
  go : ∀ (A : Around) (outer : List Env) (s : Shared) (H : Hp) (args : Args) (us : List Value) (vs : List V)
    (Q : VK) (E : XK), A.guards = some [] → Room k A → Env0 P w K mg base A outer s H →
    BindsTo s fd args (ps.zip us) → Vals vs us → sp vs H Q E →
    codeAny (model P w) A (.call (.ref f) args) (CR CX outer P w H s Q E) s
theorem deeper_guards {A : Around} {env : Env} (h : A.guards = some []) : (A.deeper env).guards = some [] := by
  simpa [Around.deeper] using h
/-- what is told behind the body, as a call's end -/
theorem fl_end {CX : CXT} {P : Program} {w : World} {K : PySem.W.Frag} {mg : Str → Option Value} {base : Heap}
    {N : List Str} {qual : Str} {scope : Scope} {f : Addr} {cdv : Value} {A : Around} {outer : List Env} {s s' : Shared} {H : Hp} {Q : VK} {E : XK}
    {σ' : L2.St} {H' : Hp} {v : V} {u : Value}
    (J : Inv (cxOf CX P w K mg base N qual scope f cdv A outer s H E) [] σ' H' s') (rv : RelV v u) (q : Q v H') :
    CE outer P w H s Q u s' := ⟨v, H', J.os, J.bare, J.base, J.hok, rv, q⟩
theorem fnG_of {CX : CXT} {P : Program} {w : World} {K : PySem.W.Frag} {mg : Str → Option Value} {base : Heap}
    {x qual : Str} {params : Arguments} {body : List Stmt} {scope : Scope} {dvs : List V} {kws : List (Str × V)}
    {f : Addr} {fd : FuncData} {N ps : List Str} {k : Nat} {sp : Sp}
    (F : FunD K x qual params body scope dvs kws f fd) (S : FnScope N ps scope) (hm : ∀ vs H Q E, sp vs H Q E → vs.length = ps.length)
    (hb : ∀ (cdv : Value) (A : Around) (outer : List Env) (s : Shared) (H : Hp) (vs : List V) (Q : VK) (E : XK), A.guards = some [] →
      Room k (A.deeper (envOfC qual scope s.heap.objs.size f cdv)) → sp vs H Q E →
      ∃ t, PSs (cxOf CX P w K mg base N qual scope f cdv A outer s H E) body t ∧
        t { nx := fun _ H' => Q .non H', rt := Q } (start N vs) H) : FnG P w K mg base CX (k + 1) f fd ps sp := by
  obtain ⟨oc, od, dV, kV, doc, pm, an, cdv, ct, osl, rfl, look, code, _, _⟩ := F.ex
  refine ⟨hm, fun A outer s H args us vs Q E gd room env bd rel told => ?_⟩
  have many := hm vs H Q E told
  have kin : K.In s.heap := env.mod.kin.keeps fun b o e => (env.bs b o e).1
  have kinds : ∀ y ∈ ps.zip us, scope.names.lookup y.1 = some .local ∨
      (scope.names.lookup y.1 = some .cell ∧ ((cellsFrom (s.heap.objs.size + 1) scope.names []).lookup y.1).isSome = true) := by
    rintro ⟨n, v⟩ hy
    cases S.par n (List.of_mem_zip hy).1 with
    | inl q => exact .inl q
    | inr q => exact .inr ⟨q, PySem.W.cellsFrom_some _ _ _ (.inl q)⟩
  refine codeAny_call_function room.depth (kin _ _ look) rfl S.co S.gen rfl
    (PySem.W.codeRec_of kin code) (bd _ _ _ _ (wpAny_newFunctionEnv_cells S.kind kinds fun env2 he s1 x => ?_))
  subst he
  obtain ⟨t, walk, hq⟩ := hb cdv A outer s H vs Q E gd (room.deeper _) told
  have inv : Inv (cxOf CX P w K mg base N qual scope f cdv A outer s H E) [] (start N vs) H s1 :=
    inv_start S room.hd env many rel x
  refine ⟨(env.mod.nolimit.keeps fun b o e => (env.bs b o e).1).keeps x.toInCall.keep, codeAny_func
    (wpAny_mono (walk.run [] s1 (start N vs) H _ inv hq) (fun fl s' hs => ?_) fun e s' hs => hs)⟩
  cases fl with
  | next => obtain ⟨_, _, J, q⟩ := hs; exact fl_end (v := V.non) (u := Value.none) J rfl q
  | ret u => obtain ⟨_, _, _, J, rv, q⟩ := hs; exact fl_end J rv q
  | brk => exact hs.elim fun _ h => h.elim fun _ h => h.2.elim
  | cont => exact hs.elim fun _ h => h.elim fun _ h => h.2.elim
end L2
namespace L2
open PySem PySem.Spec PyProof.Rows
/-- the law's call from a heap H in which at most its script is told -/
theorem law_inG {P : Program} {w : World} {K : PySem.W.Frag} {mg mb : Str → Option Value} {CX : CXT} {k : Nat}
    {fa a : Addr} {fd : FuncData} {x : Str} {sp : Sp} {s : Shared} {vs : List Value} {H : Hp}
    (kin : K.In s.heap) (nsG : s.heap.Ns mainGlobals mg) (nsB : s.heap.Ns builtinsNs mb)
    (boot : ∀ y : Str, y ≠ "__name__" → mb y = bootBuiltins y) (nolim : s.heap.NoLimit) (nogen : s.gens = #[])
    (own : s.heap.get? a = some { cls := .type "list", data := .seq vs.toArray }) (room : Room k callerA)
    (F : ∀ base : Heap, K.In base → base.Ns mainGlobals mg → FnG P w K mg base CX k fa fd [x] sp)
    (bind : BindsTo s fd ⟨[.ref a], []⟩ [(x, .ref a)]) (told : sp [.ref a] H (fun v _ => v = .bl true) fun _ _ _ => False)
    (quiet : ∀ e s', CX [] H s (fun _ _ _ => False) e s' → False)
    (only : Only H) (ok : HOk P w H s.heap) (at_ : ∀ b, H b ≠ none → b = a) (out : H a ≠ none → K.lookup a = none) :
    codeAny (model P w) callerA (.call (.ref fa) ⟨[.ref a], []⟩)
      (fun r s' => r = .ok (.ret (.bool true)) ∧ OldK s.heap s'.heap ∧ s'.os = s.os ∧ AllBare s'.gens) s := by
  have offList : ∀ {b : Addr} {o : Obj}, s.heap.get? b = some o → (∀ es ep, o.data = .dict es ep → H b = none) := fun {b o} eb es ep ed => by
    by_cases hb : H b = none
    · exact hb
    · have eba := at_ b hb
      rw [eba, own] at eb
      cases eb
      cases (show Data.seq vs.toArray _ = Data.dict es ep from ed)
  have keepNs : ∀ {b : Addr} {m : Str → Option Value}, s.heap.Ns b m → (hidT s.heap H).Ns b m := by
    rintro b m ⟨o, es, ep, eb, ed, r⟩
    exact ⟨o, es, ep, hidT_get eb (offList eb es ep ed), ed, r⟩
  have keepK : K.In (hidT s.heap H) := by
    intro b o eb
    by_cases hb : H b = none
    · exact hidT_get (kin b o eb) hb
    · have eba := at_ b hb
      rw [eba] at hb eb
      rw [out hb] at eb
      cases eb
  have mod : Mod K mg (hidT s.heap H) := by
    obtain ⟨mc, l1, l2⟩ := nolim
    exact ⟨keepK, keepNs nsG, ⟨mb, keepNs nsB, boot⟩, ⟨mc, keepNs l1, l2⟩⟩
  have env : Env0 P w K mg (hidT s.heap H) callerA [] s H :=
    ⟨rfl, mod, fun _ _ eb => of_hidT eb, Nat.le_of_eq (hidT_size _ _), trivial, (fun b hb => by cases hb), ok, .of_eq nogen⟩
  have run := (F _ keepK (keepNs nsG)).go callerA [] s H ⟨[.ref a], []⟩ [.ref a] [.ref a] _ _ rfl room env bind (.cons rfl .nil) told
  refine codeAny_mono run fun r s' h => ?_
  match r, h with
  | .error e, h => exact (quiet e s' h).elim
  | .ok .next, h => exact h.elim
  | .ok .brk, h => exact h.elim
  | .ok .cont, h => exact h.elim
  | .ok (.ret u), ⟨v, H', os, bare, un, ok', rel, q⟩ =>
    have q : v = .bl true := q
    rw [q] at rel
    have ru : u = Value.bool true := rel
    rw [ru]
    refine ⟨rfl, OldK.of_keep fun b o eb => ?_, os, bare⟩
    rcases only b with z | ⟨ob, xs, z⟩
    · exact un.keep b o eb z (by intro y; cases y) (by simp)
    · have e1 := (ok b _ z).1
      have e2 := (ok' b _ (un.frzs b ob _ z)).1
      rw [eb] at e1
      rw [Option.some.inj e1]
      exact e2
theorem law_callG {P : Program} {w : World} {K : PySem.W.Frag} {mg mb : Str → Option Value} {CX : CXT} {k : Nat}
    {fa a : Addr} {fd : FuncData} {x : Str} {sp : Sp} {s : Shared} {vs : List Value} {ns : List Int}
    (kin : K.In s.heap) (nsG : s.heap.Ns mainGlobals mg) (nsB : s.heap.Ns builtinsNs mb)
    (boot : ∀ y : Str, y ≠ "__name__" → mb y = bootBuiltins y) (nolim : s.heap.NoLimit) (nogen : s.gens = #[])
    (own : s.heap.get? a = some { cls := .type "list", data := .seq vs.toArray }) (wholes : IntsAre vs ns) (short : ns.length ≤ sizeLine) (room : Room k callerA)
    (F : ∀ base : Heap, K.In base → base.Ns mainGlobals mg → FnG P w K mg base CX k fa fd [x] sp)
    (bind : ∀ (t : Shared) (u : Value), BindsTo t fd ⟨[u], []⟩ [(x, u)])
    (told : ∀ H : Hp, Only H → SqL K H a (ns.map V.int) → sp [.ref a] H (fun v _ => v = .bl true) fun _ _ _ => False)
    (quiet : ∀ H e s', CX [] H s (fun _ _ _ => False) e s' → False) :
    codeAny (model P w) callerA (.call (.ref fa) ⟨[.ref a], []⟩)
      (fun r s' => r = .ok (.ret (.bool true)) ∧ OldK s.heap s'.heap ∧ s'.os = s.os ∧ AllBare s'.gens) s := by
  have vals := vals_ints wholes
  have len := wholes.length
  by_cases hk : K.lookup a = none
  · -- told by H itself
    let H : Hp := fun b => if b = a then some (.frz { cls := .type "list", data := .seq vs.toArray } (.lst (ns.map V.int))) else none
    have Ha : H a = some (.frz { cls := .type "list", data := .seq vs.toArray } (.lst (ns.map V.int))) := if_pos rfl
    have Hn : ∀ b, b ≠ a → H b = none := fun b hb => if_neg hb
    have only : Only H := fun b => by
      by_cases hb : b = a
      · rw [hb]; exact .inr ⟨_, _, Ha⟩
      · exact .inl (Hn b hb)
    refine law_inG kin nsG nsB boot nolim nogen own room F (bind s (.ref a)) (told H only (.inl (.inr ⟨_, Ha⟩))) (quiet H) only ?_ ?_ fun _ => hk
    · intro b u z
      by_cases hb : b = a
      · subst hb
        rw [Ha] at z
        cases z
        exact ⟨own, by rw [List.length_map]; exact short, vs, _, vals, own⟩
      · rw [Hn b hb] at z; cases z
    · intro b z
      by_cases hb : b = a
      · exact hb
      · exact absurd (Hn b hb) z
  · obtain ⟨o, ho⟩ := Option.ne_none_iff_exists'.mp hk
    have e := kin a o ho
    rw [own] at e
    cases e
    refine law_inG (H := fun _ => none) kin nsG nsB boot nolim nogen own room F (bind s (.ref a)) (told _ (fun _ => .inl rfl) (.inr ⟨_, vs.toArray, _, ho, rfl, rfl, rfl, ?_, by simpa using vals⟩)) (quiet _) (fun _ => .inl rfl) (fun b u z => ?_) (fun b z => absurd rfl z) fun z => absurd rfl z
    · rw [List.size_toArray, len]; exact short
    · cases (show (none : Option HO) = some u from z)
end L2
namespace Dn
open PySem PySem.Spec PyProof.Rows L2
def gRepr : List D → Option D
  | [d] => if PyData.showable d = true ∧ PyData.hasDict d = false ∧ (PyData.shown d).length ≤ lim ∧ PyData.depth d ≤ 60 then some (.str (PyData.shown d)) else none
  | _ => none
theorem c_repr {K : Frag} : CallS K (rReprD K) gRepr := fun G H vs ds x Q s hv hg q => by
  unfold gRepr at hg
  split at hg
  · rename_i d
    split at hg
    · rename_i h
      cases hg
      cases hv with
      | cons h0 ht =>
        cases ht
        exact ⟨_, d, rfl, h0.dp s, h.1, h.2.1, Nat.le_trans h.2.2.1 (by decide), h.2.2.2, grow0 s (.str _) q⟩
    · cases hg
  · cases hg
theorem cfgU65 {X : Cx} {E : XK} {k : Nat} (c : Cfg X E k) : X.A.units + 65 < cLine := by have := c.room.units; have := c.room.un; omega
section
variable {P : Program} {w : World} {K : Frag} {mg : Str → Option Value} {base : Heap} {N : List Str} {qual : Str} {scope : Scope} {k : Nat} {f : Addr}
/-- as Bd, where no repr is under way at the call -/
structure BdG (P : Program) (w : World) (K : Frag) (mg : Str → Option Value) (base : Heap) (N : List Str) (qual : Str) (scope : Scope) (body : List Stmt) (k : Nat) (xi : XI) (pm : List (Md K)) (own : List Nat) (rm : Md K) (den : Den Fl) (vs : List V) : Prop where
  ex : ∀ (f : Addr) (cdv : Value) (A : Around) (outer : List Env) (s : Shared) (H : Hp) (E : XK), (cxD P w K mg base N qual scope f cdv A outer s H E).A.guards = some [] → Cfg (cxD P w K mg base N qual scope f cdv A outer s H E) E k →
    ∃ ms', JSs (cxD P w K mg base N qual scope f cdv A outer s H E) xi E (omOf own vs pm) rm (ms0 N.length own vs pm) body ms' den ∧ ((rm = mP K ∧ Ow (omOf own vs pm) ms') ∨ ∀ ρ r, den ρ ≠ .ok .nx r)
theorem bdG_of {body : List Stmt} {xi : XI} {pm ms ms' : List (Md K)} {own : List Nat} {den : Den Fl} {vs : List V} {om : Om K}
    (d : ∀ (f : Addr) (cdv : Value) (A : Around) (outer : List Env) (s : Shared) (H : Hp) (E : XK), (cxD P w K mg base N qual scope f cdv A outer s H E).A.guards = some [] → Cfg (cxD P w K mg base N qual scope f cdv A outer s H E) E k → JSs (cxD P w K mg base N qual scope f cdv A outer s H E) xi E om (mP K) ms body ms' den)
    (h1 : omOf own vs pm = om := by rfl) (h2 : ms0 N.length own vs pm = ms := by rfl) (ow : Ow om ms' := by first | exact ow0 | exact ow1 rfl | exact ow2 (by decide) rfl rfl) : BdG P w K mg base N qual scope body k xi pm own (mP K) den vs := by
  subst h1 h2
  exact ⟨fun f cdv A outer s H E gd c => ⟨ms', d f cdv A outer s H E gd c, .inl ⟨rfl, ow⟩⟩⟩
variable {x : Str} {params : Arguments} {body : List Stmt} {dvs : List V} {kws : List (Str × V)} {fd : FuncData} {ps : List Str} {xi : XI} {pm : List (Md K)} {own : List Nat} {rm : Md K} {den : Den Fl}
theorem fnG_ok (F : FunD K x qual params body scope dvs kws f fd) (S : FnScope N ps scope) (hpm : pm.length = ps.length) (ho : ∀ i ∈ own, i < pm.length) (b : ∀ vs : List V, vs.length = ps.length → BdG P w K mg base N qual scope body k xi pm own rm den vs) :
    FnG P w K mg base (L2.CX P w) (k + 1) f fd ps (spF xi pm own rm (fnD N.length own den)) := by
  have hN : pm.length ≤ N.length := by
    have := congrArg List.length S.pre
    rw [List.length_take] at this
    omega
  refine fnG_of F S (spF_len hpm) fun cdv A outer s H vs Q E gd hr h => ?_
  have hl := spF_len hpm vs H Q E h
  obtain ⟨ms', j, hend⟩ := (b vs hl).ex f cdv A outer s H E (deeper_guards gd) (cfg_of S.nd hr)
  rcases hend with ⟨e, ow⟩ | hx
  · exact fn_body (P := P) (w := w) j e ow hN ho h
  · exact fn_bodyR (P := P) (w := w) j hN ho hx h
end
theorem walk_ofG {l : PySem.W.OpenLaw} {n k : Nat} {q : Program} {loose : List Str} {XP : (Str → Option Value) → Heap → Prop} {YP : World → Heap → Prop} {d : DefRec} {CX : World → CXT} {x : Str}
    (hn : l.most = some n) (hn2 : n ≤ sizeLine) (hdf : d.params.defaults = []) (hr : Room k callerA)
    (F : ∀ (w : World) (mg : Str → Option Value) (fa : Addr) (h : Heap), YP w h → h.Ns mainGlobals mg → mg d.name = some (.ref fa) →
      ∃ (K : PySem.W.Frag) (fd : FuncData) (sp : Sp), K.In h ∧ (∀ (s : Shared) (u : Value), BindsTo s fd ⟨[u], []⟩ [(x, u)]) ∧
        (∀ (H : Hp) (a : Addr) (ns : List Int), ns.length ≤ n → (∀ z ∈ ns, Builtin.Int.intBits z ≤ 1048576) → SqL K H a (ns.map V.int) → sp [.ref a] H (fun v _ => v = .bl true) fun _ _ _ => False) ∧
        ∀ base : Heap, K.In base → base.Ns mainGlobals mg → FnG l.prog w K mg base (CX w) k fa fd [x] sp)
    (hCX : ∀ (w : World) (H : Hp) (s : Shared) (e : Value) (s' : Shared), CX w [] H s (fun _ _ _ => False) e s' → False) :
    PySem.W.WalkO q loose XP YP l.row.toRowW d [] (fun f vs => PySem.call f vs) := by
  refine Att.attach_callB hn hdf fun w s₀ s₁ mg mb fa o pm cd doc a vs ns G Y ho hd hcd hmg hobj hints hlen hbits hg => ?_
  obtain ⟨K, fd, sp, KX, hb, hsp, hF⟩ := F w mg fa _ Y G.T.g hmg
  exact law_callG KX G.T.g G.T.b G.T.builtins G.T.nolimit hg hobj hints (Nat.le_trans hlen hn2) hr hF hb (fun H _ hS => hsp H a ns hlen hbits hS) fun H e s' => hCX w H s₁ e s'
end Dn


set_option maxHeartbeats 4000000
/-! Dn34: any tuple some times, an empty one, too. -/
namespace Dn
open PySem PySem.Spec PyProof.Rows L2
/-- texts told apart -/
def gNeS : D → D → Option D
  | .str a, .str b => some (.bool (!decide (a = b)))
  | _, _ => none
theorem s_neS {K : Frag} : OpS K rNe gNeS := fun G H v w d e x Q s hv hw hg q => by
  unfold gNeS at hg
  split at hg
  · rename_i a b
    cases hg
    have h1 := hv.str
    have h2 := hw.str
    subst h1 h2
    have e : decide (V.str a = V.str b) = decide (a = b) := by simp
    refine ⟨rfl, ?_⟩
    rw [e]
    exact grow0 s (.bl _) q
  · cases hg
end Dn


set_option maxHeartbeats 4000000
/-! Dn35: calls of defs that use repr, where no repr is under way. -/
namespace L2
open PySem PySem.Spec PyProof.Rows
section
variable {X : Cx} {CX : CXT} {k : Nat} {f : Addr} {fd : FuncData} {ps : List Str} {sp : Sp}
  {dvs : List V} {ds : List Value} {E : XK} {x : Str} {p pos : Pos} {e : Expr} {es : List Expr} {t : TA}
theorem run_G {pins : List (Addr × Obj)} {σ : L2.St} {H : Hp} {s : Shared} {Q : VK} {us : List Value} {vs : List V}
    (F : FnG X.prog X.w X.K X.mg X.base CX k f fd ps sp) (gd : X.A.guards = some []) (room : Room k X.A)
    (bd : Binds X.K fd ps ds) (dv : Vals dvs ds) (out : Passes CX X E) (inv : Inv X pins σ H s) (rel : Vals vs us)
    (told : sp (vs ++ dvs) H Q E) : wpAny (model X.prog X.w) X.A (call (.ref f) us) (EP X pins σ Q) X.xe s := by
  have both := rel.append dv
  have many : (us ++ ds).length = ps.length := both.length.symm.trans (F.many _ _ _ _ told)
  have go := F.go X.A X.stack s H ⟨us, []⟩ (us ++ ds) (vs ++ dvs) Q E gd room inv.env0 (bd s us inv.kIn many) both told
  refine wpAny_call (codeAny_mono go fun r s' h => ?_)
  match r, h with
  | .error e, h => exact out pins σ H s e s' inv h
  | .ok (.ret u), h => exact inv.after h
  | .ok .next, h => exact h.elim
  | .ok .brk, h => exact h.elim
  | .ok .cont, h => exact h.elim
theorem pe_callG (F : FnG X.prog X.w X.K X.mg X.base CX k f fd ps sp) (gd : X.A.guards = some []) (room : Room k X.A)
    (gl : Gl X x) (at_ : X.mg x = some (.ref f)) (kp : PySem.W.keepIn X.K (.ref f) = true)
    (bd : Binds X.K fd ps ds) (dv : Vals dvs ds) (out : Passes CX X E) (args : PA X (e :: es) t)
    (hdb : (x == ("__debug__" : Str)) = false) (he : starEach (e :: es) X.env = (false, eval e X.env) :: starEach es X.env)
    (hpl : (backTo pos (starEach es X.env)).any (·.1) = false) : PE X (.Call (.Name x p) (e :: es) [] pos) (tCall sp dvs E t) :=
  ⟨fun pins s σ H Q inv h => wpAny_Call_Name_kw (ld_glob inv gl at_
    (PySem.W.callWith_K (h₀ := X.base) inv.ok.mod.kin kp
      (thn (args.run pos pins s σ H _ inv h) fun us s1 ⟨vs, H1, inv1, r, q⟩ => ⟨inv1.kIn, run_G F gd room bd dv out inv1 r q⟩) he hpl) hdb)⟩
end
end L2
namespace Dn
open PySem PySem.Spec PyProof.Rows L2
structure CalG (P : Program) (w : World) (K : Frag) (mg : Str → Option Value) (base : Heap) (k : Nat) (x : Str) (sp : Sp) (dvs : List V) : Prop where
  ex : ∃ (f : Addr) (fd : FuncData) (ps : List Str) (ds : List Value), FnG P w K mg base (L2.CX P w) k f fd ps sp ∧ mg x = some (.ref f) ∧ PySem.W.keepIn K (.ref f) = true ∧ Binds K fd ps ds ∧ Vals dvs ds
theorem calG_of {P : Program} {w : World} {K : Frag} {mg : Str → Option Value} {base : Heap} {k : Nat} {x : Str} {f : Addr} {fd : FuncData} {ps : List Str} {ds : List Value} {dv2 : List V} {sp : Sp} (F : FnG P w K mg base (L2.CX P w) k f fd ps sp) (m : mg x = some (.ref f)) (kp : PySem.W.keepIn K (.ref f) = true) (b : Binds K fd ps ds) (v : Vals dv2 ds) : CalG P w K mg base k x sp dv2 := ⟨f, fd, ps, ds, F, m, kp, b, v⟩
section
variable {X : Cx} {xi : XI} {E : XK} {ms : List (Md X.K)} {j k : Nat} {x : Str} {pm : List (Md X.K)} {own sl : List Nat} {rm : Md X.K} {f : Fn} {dvs : List V} {dds : List D} {ks : List Ok} {e : Expr} {es : List Expr} {fa : Den (List D)} {p pos : Pos}
theorem je_callG (gd : X.A.guards = some []) (c : Cfg X E j) (C : CalG X.prog X.w X.K X.mg X.base k x (spF xi pm own rm f) dvs) (A : ArgOk ms pm own (ks ++ List.replicate dds.length none) sl) (hd : ∀ G, DqAll X.K G dvs dds) (ha : JA X xi E ms (e :: es) ks fa) (hk : k ≤ j := by first | decide | omega) (hg : Gl X x := by rfl)
    (hdb : (x == ("__debug__" : Str)) = false := by decide) (he : starEach (e :: es) X.env = (false, eval e X.env) :: starEach es X.env := by rfl) (hpl : (backTo pos (starEach es X.env)).any (·.1) = false := by rfl) :
    JE X xi E ms (.Call (.Name x p) (e :: es) [] pos) rm (dCall own ks sl dds f fa) := by
  obtain ⟨f', fd, ps, ds, F, h1, h2, h3, h4⟩ := C.ex
  obtain ⟨t, pt, h⟩ := run_call (rm := rm) (f := f) A hd ha
  exact ⟨_, pe_callG F gd (c.room.mono hk) hg h1 h2 h3 h4 c.pass pt hdb he hpl, h⟩
end
end Dn


namespace Lw
open PySem PySem.Spec PyProof.Rows L2 Dn
def topS (i : Nat) : Stmt := PySem.Challenge.pw_echopanes_k25_rows_shown_or_not.main.body.getD i (.Pass ⟨0, 0, 0, 0⟩)
abbrev s_is_number : Stmt := topS 3
theorem sc_is_number : FnScope ["thing"] ["thing"] (defScope s_is_number) := ⟨rfl, rfl, rfl, by decide +kernel, rfl, by decide +kernel, by decide +kernel⟩
def d_is_number : He.DefD := ⟨("is_number", none), "is_number", "is_number", defArgs s_is_number, defBody s_is_number, defScope s_is_number, [], []⟩
abbrev s_common : Stmt := topS 4
theorem sc_common : FnScope ["one", "other"] ["one", "other"] (defScope s_common) := ⟨rfl, rfl, rfl, by decide +kernel, rfl, by decide +kernel, by decide +kernel⟩
def d_common : He.DefD := ⟨("common", none), "common", "common", defArgs s_common, defBody s_common, defScope s_common, [], []⟩
abbrev s_is_frac : Stmt := topS 5
theorem sc_is_frac : FnScope ["thing", "part", "top", "bottom"] ["thing"] (defScope s_is_frac) := ⟨rfl, rfl, rfl, by decide +kernel, rfl, by decide +kernel, by decide +kernel⟩
def d_is_frac : He.DefD := ⟨("is_frac", none), "is_frac", "is_frac", defArgs s_is_frac, defBody s_is_frac, defScope s_is_frac, [], []⟩
abbrev s_frac : Stmt := topS 6
theorem sc_frac : FnScope ["top", "bottom", "by"] ["top", "bottom"] (defScope s_frac) := ⟨rfl, rfl, rfl, by decide +kernel, rfl, by decide +kernel, by decide +kernel⟩
def d_frac : He.DefD := ⟨("frac", none), "frac", "frac", defArgs s_frac, defBody s_frac, defScope s_frac, [.int 1], []⟩
abbrev s_minus : Stmt := topS 7
theorem sc_minus : FnScope ["one", "other"] ["one", "other"] (defScope s_minus) := ⟨rfl, rfl, rfl, by decide +kernel, rfl, by decide +kernel, by decide +kernel⟩
def d_minus : He.DefD := ⟨("minus", none), "minus", "minus", defArgs s_minus, defBody s_minus, defScope s_minus, [], []⟩
abbrev s_times : Stmt := topS 8
theorem sc_times : FnScope ["one", "other"] ["one", "other"] (defScope s_times) := ⟨rfl, rfl, rfl, by decide +kernel, rfl, by decide +kernel, by decide +kernel⟩
def d_times : He.DefD := ⟨("times", none), "times", "times", defArgs s_times, defBody s_times, defScope s_times, [], []⟩
abbrev s_over : Stmt := topS 9
theorem sc_over : FnScope ["one", "other"] ["one", "other"] (defScope s_over) := ⟨rfl, rfl, rfl, by decide +kernel, rfl, by decide +kernel, by decide +kernel⟩
def d_over : He.DefD := ⟨("over", none), "over", "over", defArgs s_over, defBody s_over, defScope s_over, [], []⟩
abbrev s_padded : Stmt := topS 11
theorem sc_padded : FnScope ["poly", "many"] ["poly", "many"] (defScope s_padded) := ⟨rfl, rfl, rfl, by decide +kernel, rfl, by decide +kernel, by decide +kernel⟩
def d_padded : He.DefD := ⟨("padded", none), "padded", "padded", defArgs s_padded, defBody s_padded, defScope s_padded, [], []⟩
abbrev s_quotient_to : Stmt := topS 12
theorem sc_quotient_to : FnScope ["one", "other", "many", "rest", "found", "by", "power", "step"] ["one", "other", "many"] (defScope s_quotient_to) := ⟨rfl, rfl, rfl, by decide +kernel, rfl, by decide +kernel, by decide +kernel⟩
def d_quotient_to : He.DefD := ⟨("quotient_to", none), "quotient_to", "quotient_to", defArgs s_quotient_to, defBody s_quotient_to, defScope s_quotient_to, [], []⟩
abbrev s_is_pane : Stmt := topS 15
theorem sc_is_pane : FnScope ["thing"] ["thing"] (defScope s_is_pane) := ⟨rfl, rfl, rfl, by decide +kernel, rfl, by decide +kernel, by decide +kernel⟩
def d_is_pane : He.DefD := ⟨("is_pane", none), "is_pane", "is_pane", defArgs s_is_pane, defBody s_is_pane, defScope s_is_pane, [], []⟩
abbrev s_is_row : Stmt := topS 16
theorem sc_is_row : FnScope ["thing", "panes", "wall", "pane"] ["thing"] (defScope s_is_row) := ⟨rfl, rfl, rfl, by decide +kernel, rfl, by decide +kernel, by decide +kernel⟩
def d_is_row : He.DefD := ⟨("is_row", none), "is_row", "is_row", defArgs s_is_row, defBody s_is_row, defScope s_is_row, [], []⟩
abbrev s_filled : Stmt := topS 18
theorem sc_filled : FnScope ["some", "many"] ["some", "many"] (defScope s_filled) := ⟨rfl, rfl, rfl, by decide +kernel, rfl, by decide +kernel, by decide +kernel⟩
def d_filled : He.DefD := ⟨("filled", none), "filled", "filled", defArgs s_filled, defBody s_filled, defScope s_filled, [], []⟩
abbrev s_later : Stmt := topS 20
theorem sc_later : FnScope ["pane", "behind", "many", "ahead", "one", "shared"] ["pane", "behind", "many"] (defScope s_later) := ⟨rfl, rfl, rfl, by decide +kernel, rfl, by decide +kernel, by decide +kernel⟩
def d_later : He.DefD := ⟨("later", none), "later", "later", defArgs s_later, defBody s_later, defScope s_later, [], []⟩
abbrev s_echo : Stmt := topS 21
theorem sc_echo : FnScope ["row", "many", "panes", "wall", "found", "pane"] ["row", "many"] (defScope s_echo) := ⟨rfl, rfl, rfl, by decide +kernel, rfl, by decide +kernel, by decide +kernel⟩
def d_echo : He.DefD := ⟨("echo", none), "echo", "echo", defArgs s_echo, defBody s_echo, defScope s_echo, [], []⟩
abbrev s_shows_row : Stmt := topS 23
theorem sc_shows_row : FnScope ["echoes", "thing"] ["echoes", "thing"] (defScope s_shows_row) := ⟨rfl, rfl, rfl, by decide +kernel, rfl, by decide +kernel, by decide +kernel⟩
def d_shows_row : He.DefD := ⟨("shows_row", none), "shows_row", "shows_row", defArgs s_shows_row, defBody s_shows_row, defScope s_shows_row, [], []⟩
abbrev s__law_cell_at : Stmt := topS 25
theorem sc__law_cell_at : FnScope ["_law_script", "_law_k"] ["_law_script", "_law_k"] (defScope s__law_cell_at) := ⟨rfl, rfl, rfl, by decide +kernel, rfl, by decide +kernel, by decide +kernel⟩
def d__law_cell_at : He.DefD := ⟨("_law_cell_at", none), "_law_cell_at", "_law_cell_at", defArgs s__law_cell_at, defBody s__law_cell_at, defScope s__law_cell_at, [], []⟩
abbrev s__law_box : Stmt := topS 26
theorem sc__law_box : FnScope ["_law_script", "_law_k", "_law_core"] ["_law_script", "_law_k"] (defScope s__law_box) := ⟨rfl, rfl, rfl, by decide +kernel, rfl, by decide +kernel, by decide +kernel⟩
def d__law_box : He.DefD := ⟨("_law_box", none), "_law_box", "_law_box", defArgs s__law_box, defBody s__law_box, defScope s__law_box, [], []⟩
abbrev s__law_take : Stmt := topS 27
theorem sc__law_take : FnScope ["_law_box_here", "_law_size", "_law_found", "_law_once", "_law_twice"] ["_law_box_here", "_law_size"] (defScope s__law_take) := ⟨rfl, rfl, rfl, by decide +kernel, rfl, by decide +kernel, by decide +kernel⟩
def d__law_take : He.DefD := ⟨("_law_take", none), "_law_take", "_law_take", defArgs s__law_take, defBody s__law_take, defScope s__law_take, [], []⟩
abbrev s__law_of : Stmt := topS 28
theorem sc__law_of : FnScope ["_law_box_here", "_law_some"] ["_law_box_here", "_law_some"] (defScope s__law_of) := ⟨rfl, rfl, rfl, by decide +kernel, rfl, by decide +kernel, by decide +kernel⟩
def d__law_of : He.DefD := ⟨("_law_of", none), "_law_of", "_law_of", defArgs s__law_of, defBody s__law_of, defScope s__law_of, [], []⟩
abbrev s__law_same : Stmt := topS 29
theorem sc__law_same : FnScope ["_law_found", "_law_due", "_law_key", "_law_one", "_law_two"] ["_law_found", "_law_due"] (defScope s__law_same) := ⟨rfl, rfl, rfl, by decide +kernel, rfl, by decide +kernel, by decide +kernel⟩
def d__law_same : He.DefD := ⟨("_law_same", none), "_law_same", "_law_same", defArgs s__law_same, defBody s__law_same, defScope s__law_same, [], []⟩
abbrev s__law_frac : Stmt := topS 30
theorem sc__law_frac : FnScope ["_law_top", "_law_under", "_law_big", "_law_small", "_law_sign"] ["_law_top", "_law_under"] (defScope s__law_frac) := ⟨rfl, rfl, rfl, by decide +kernel, rfl, by decide +kernel, by decide +kernel⟩
def d__law_frac : He.DefD := ⟨("_law_frac", none), "_law_frac", "_law_frac", defArgs s__law_frac, defBody s__law_frac, defScope s__law_frac, [], []⟩
abbrev s__law_plus : Stmt := topS 31
theorem sc__law_plus : FnScope ["_law_one", "_law_other"] ["_law_one", "_law_other"] (defScope s__law_plus) := ⟨rfl, rfl, rfl, by decide +kernel, rfl, by decide +kernel, by decide +kernel⟩
def d__law_plus : He.DefD := ⟨("_law_plus", none), "_law_plus", "_law_plus", defArgs s__law_plus, defBody s__law_plus, defScope s__law_plus, [], []⟩
abbrev s__law_less : Stmt := topS 32
theorem sc__law_less : FnScope ["_law_one", "_law_other"] ["_law_one", "_law_other"] (defScope s__law_less) := ⟨rfl, rfl, rfl, by decide +kernel, rfl, by decide +kernel, by decide +kernel⟩
def d__law_less : He.DefD := ⟨("_law_less", none), "_law_less", "_law_less", defArgs s__law_less, defBody s__law_less, defScope s__law_less, [], []⟩
abbrev s__law_times : Stmt := topS 33
theorem sc__law_times : FnScope ["_law_one", "_law_other"] ["_law_one", "_law_other"] (defScope s__law_times) := ⟨rfl, rfl, rfl, by decide +kernel, rfl, by decide +kernel, by decide +kernel⟩
def d__law_times : He.DefD := ⟨("_law_times", none), "_law_times", "_law_times", defArgs s__law_times, defBody s__law_times, defScope s__law_times, [], []⟩
abbrev s__law_pane : Stmt := topS 34
theorem sc__law_pane : FnScope ["_law_box_here", "_law_under", "_law_any_one"] ["_law_box_here"] (defScope s__law_pane) := ⟨rfl, rfl, rfl, by decide +kernel, rfl, by decide +kernel, by decide +kernel⟩
def d__law_pane : He.DefD := ⟨("_law_pane", none), "_law_pane", "_law_pane", defArgs s__law_pane, defBody s__law_pane, defScope s__law_pane, [], []⟩
abbrev s__law_row : Stmt := topS 35
theorem sc__law_row : FnScope ["_law_box_here", "_law_most", "_law_turn", "_law_panes"] ["_law_box_here", "_law_most"] (defScope s__law_row) := ⟨rfl, rfl, rfl, by decide +kernel, rfl, by decide +kernel, by decide +kernel⟩
def d__law_row : He.DefD := ⟨("_law_row", none), "_law_row", "_law_row", defArgs s__law_row, defBody s__law_row, defScope s__law_row, [], []⟩
abbrev s__law_met : Stmt := topS 36
theorem sc__law_met : FnScope ["_law_pane_here", "_law_a", "_law_b", "_law_one", "_law_left"] ["_law_pane_here", "_law_a", "_law_b"] (defScope s__law_met) := ⟨rfl, rfl, rfl, by decide +kernel, rfl, by decide +kernel, by decide +kernel⟩
def d__law_met : He.DefD := ⟨("_law_met", none), "_law_met", "_law_met", defArgs s__law_met, defBody s__law_met, defScope s__law_met, [], []⟩
abbrev s__law_beat : Stmt := topS 37
theorem sc__law_beat : FnScope ["_law_row_here", "_law_ways", "_law_cries", "_law_panes", "_law_shut", "_law_count", "_law_some", "_law_left", "_law_right_here", "_law_place", "_law_pane_here", "_law_room"] ["_law_row_here", "_law_ways", "_law_cries"] (defScope s__law_beat) := ⟨rfl, rfl, rfl, by decide +kernel, rfl, by decide +kernel, by decide +kernel⟩
def d__law_beat : He.DefD := ⟨("_law_beat", none), "_law_beat", "_law_beat", defArgs s__law_beat, defBody s__law_beat, defScope s__law_beat, [], []⟩
abbrev s__law_heard : Stmt := topS 38
theorem sc__law_heard : FnScope ["_law_row_here", "_law_cries", "_law_many", "_law_ways", "_law_told", "_law_turn", "_law_pair", "_law_left", "_law_right_here"] ["_law_row_here", "_law_cries", "_law_many"] (defScope s__law_heard) := ⟨rfl, rfl, rfl, by decide +kernel, rfl, by decide +kernel, by decide +kernel⟩
def d__law_heard : He.DefD := ⟨("_law_heard", none), "_law_heard", "_law_heard", defArgs s__law_heard, defBody s__law_heard, defScope s__law_heard, [], []⟩
abbrev s__law_echo : Stmt := topS 39
theorem sc__law_echo : FnScope ["_law_row_here", "_law_many", "_law_told", "_law_turn"] ["_law_row_here", "_law_many"] (defScope s__law_echo) := ⟨rfl, rfl, rfl, by decide +kernel, rfl, by decide +kernel, by decide +kernel⟩
def d__law_echo : He.DefD := ⟨("_law_echo", none), "_law_echo", "_law_echo", defArgs s__law_echo, defBody s__law_echo, defScope s__law_echo, [], []⟩
abbrev s__law_light_row : Stmt := topS 40
theorem sc__law_light_row : FnScope ["_law_box_here", "_law_most", "_law_panes", "_law_turn", "_law_under", "_law_any_one"] ["_law_box_here", "_law_most"] (defScope s__law_light_row) := ⟨rfl, rfl, rfl, by decide +kernel, rfl, by decide +kernel, by decide +kernel⟩
def d__law_light_row : He.DefD := ⟨("_law_light_row", none), "_law_light_row", "_law_light_row", defArgs s__law_light_row, defBody s__law_light_row, defScope s__law_light_row, [], []⟩
abbrev s__law_is_row : Stmt := topS 41
theorem sc__law_is_row : FnScope ["_law_matter", "_law_pane_here", "_law_part"] ["_law_matter"] (defScope s__law_is_row) := ⟨rfl, rfl, rfl, by decide +kernel, rfl, by decide +kernel, by decide +kernel⟩
def d__law_is_row : He.DefD := ⟨("_law_is_row", none), "_law_is_row", "_law_is_row", defArgs s__law_is_row, defBody s__law_is_row, defScope s__law_is_row, [], []⟩
abbrev s__law_odd : Stmt := topS 42
theorem sc__law_odd : FnScope ["_law_box_here", "_law_row_here", "_law_at", "_law_panes", "_law_shut", "_law_one", "_law_some"] ["_law_box_here", "_law_row_here", "_law_at"] (defScope s__law_odd) := ⟨rfl, rfl, rfl, by decide +kernel, rfl, by decide +kernel, by decide +kernel⟩
def d__law_odd : He.DefD := ⟨("_law_odd", none), "_law_odd", "_law_odd", defArgs s__law_odd, defBody s__law_odd, defScope s__law_odd, [], []⟩
abbrev s__law_near : Stmt := topS 43
theorem sc__law_near : FnScope ["_law_box_here", "_law_row_here", "_law_at", "_law_panes", "_law_shut", "_law_some"] ["_law_box_here", "_law_row_here", "_law_at"] (defScope s__law_near) := ⟨rfl, rfl, rfl, by decide +kernel, rfl, by decide +kernel, by decide +kernel⟩
def d__law_near : He.DefD := ⟨("_law_near", none), "_law_near", "_law_near", defArgs s__law_near, defBody s__law_near, defScope s__law_near, [], []⟩
abbrev s__law_right : Stmt := topS 44
theorem sc__law_right : FnScope ["_law_box_here", "_law_row_here", "_law_many", "_law_numbers", "_law_spot", "_law_turn", "_law_at", "_law_near_here", "_law_matter", "_law_kept", "_law_due"] ["_law_box_here"] (defScope s__law_right) := ⟨rfl, rfl, rfl, by decide +kernel, rfl, by decide +kernel, by decide +kernel⟩
def d__law_right : He.DefD := ⟨("_law_right", none), "_law_right", "_law_right", defArgs s__law_right, defBody s__law_right, defScope s__law_right, [], []⟩
abbrev s_law : Stmt := topS 45
theorem sc_law : FnScope ["_law_script", "_law_k", "_law_box_here", "_law_turn"] ["_law_script"] (defScope s_law) := ⟨rfl, rfl, rfl, by decide +kernel, rfl, by decide +kernel, by decide +kernel⟩
def d_law : He.DefD := ⟨("law", none), "law", "law", defArgs s_law, defBody s_law, defScope s_law, [], []⟩
/-! the head -/
set_option maxHeartbeats 8000000
def fnL : List He.DefD := [d_is_number, d_common, d_is_frac, d_frac, d_minus, d_times, d_over, d_padded, d_quotient_to, d_is_pane, d_is_row, d_filled, d_later, d_echo, d_shows_row, d__law_cell_at, d__law_box, d__law_take, d__law_of, d__law_same, d__law_frac, d__law_plus, d__law_less, d__law_times, d__law_pane, d__law_row, d__law_met, d__law_beat, d__law_heard, d__law_echo, d__law_light_row, d__law_is_row, d__law_odd, d__law_near, d__law_right, d_law]
def faL0 : List He.Fa := [.glo "is_number", .glo "common", .glo "is_frac", .glo "frac", .glo "minus", .glo "times", .glo "over", .glo "padded", .glo "quotient_to", .glo "is_pane", .glo "is_row", .glo "filled", .glo "later", .glo "echo", .glo "shows_row", .glo "_law_cell_at", .glo "_law_box", .glo "_law_take", .glo "_law_of", .glo "_law_same", .glo "_law_frac", .glo "_law_plus", .glo "_law_less", .glo "_law_times", .glo "_law_pane", .glo "_law_row", .glo "_law_met", .glo "_law_beat", .glo "_law_heard", .glo "_law_echo"]
def faL1 : List He.Fa := [.glo "_law_light_row", .glo "_law_is_row", .glo "_law_odd", .glo "_law_near", .glo "_law_right", .glo "law", .free "isinstance", .free "int", .free "bool", .free "tuple", .free "len", .free "all", .free "abs", .free "list", .free "max", .free "range", .free "dict", .free "zip", .free "str", .free "enumerate", .free "min", .free "repr", .glo "NOUGHT", .glo "WALLS", .glo "ONE"]
def faL : List He.Fa := faL0 ++ faL1
def exK (K : PySem.W.Frag) : Bool := He.tupB K "NOUGHT" [.int 0, .int 1] && He.tupB K "WALLS" [.int (-1), .int 0, .int 1] && He.tupB K "ONE" [.int 1, .int 1]
abbrev Rw : PySem.W.OpenRow := PySem.W.OpenLaw.row PySem.Challenge.rw_echopanes_k25_rows_shown_or_not
abbrev hk : PySem.W.Hook := He.hookX 4 faL fnL [] [] exK
def ob (s : PySem.W.SharedT) : He.AlX := He.obsX 4 faL fnL [] [] exK (HandSHeadRun.getT s)
theorem ob_eq (s : PySem.W.SharedT) : ob s = hk.obs s.abs := He.obsX_eq (HandSHeadRun.getT_eq s)
def loose0 : List Str := ["__name__", "NOUGHT", "ONE", "is_number", "common", "is_frac", "frac", "minus", "times", "over", "padded", "quotient_to", "WALLS", "is_pane", "is_row", "filled", "later", "echo", "shows_row", "_law_cell_at", "_law_box", "_law_take", "_law_of", "_law_same", "_law_frac", "_law_plus", "_law_less", "_law_times", "_law_pane", "_law_row"]
def loose1 : List Str := ["_law_met", "_law_beat", "_law_heard", "_law_echo", "_law_light_row", "_law_is_row", "_law_odd", "_law_near", "_law_right"]
def loose : List Str := loose0 ++ loose1
theorem run (w : World) : HandSHeadRun.RunEq Rw (PySem.W.view Rw.prog [45]) hk ob 4000 loose w := by
  intro os
  kernel_rfl
end Lw

/-! Sl1: rationals as pairs; the loop of a greatest divisor. -/
namespace Dn
open PySem PySem.Spec PyProof.Rows L2
/-! ### the loop -/
theorem mod_half {r b : Nat} (h0 : 0 < r) (h : r < b) : 2 * (b % r) < b := by
  have h1 := Nat.mod_lt b h0
  have h2 := Nat.div_add_mod b r
  have h3 : 1 ≤ b / r := (Nat.le_div_iff_mul_le h0).mpr (by omega)
  have h4 : r * 1 ≤ r * (b / r) := Nat.mul_le_mul_left r h3
  omega
theorem whileD_succ {h : Den Bool} {f : Den Fl} {n : Nat} {ρ : Rho} : whileD h f (n + 1) ρ = (h ρ).bind fun b r => if b = true then (f r).bind fun fl r2 => match fl with
    | .nx => whileD h f n r2
    | .ret d => .ok (.ret d) r2
    else .ok .nx r := rfl
abbrev gcdT (j : Nat) : Den Bool := dTest (dOp none none gGt (dVar j) (dC (.int 0)))
abbrev gcdB (i j : Nat) : Den Fl := dPar i j (dVar j) (dOp none none gMod (dVar i) (dVar j))
theorem gcdT_eq {j : Nat} {b : Nat} {ρ : Rho} (hj : ρ[j]? = some (some (.int (b : Int)))) : gcdT j ρ = .ok (decide (0 < b)) ρ := by
  unfold gcdT dTest dOp dVar dC
  rw [hj]
  have e : decide ((b : Int) > 0) = decide (0 < b) := by
    by_cases h : 0 < b
    · rw [decide_eq_true h, decide_eq_true (by omega)]
    · rw [decide_eq_false h, decide_eq_false (by omega)]
  show R.ok (decide ((b : Int) > 0)) ρ = _
  rw [e]
theorem gcdB_eq {i j : Nat} {a b : Nat} {ρ : Rho} (hi : ρ[i]? = some (some (.int (a : Int)))) (hj : ρ[j]? = some (some (.int (b : Int)))) (hb : 0 < b) : gcdB i j ρ = .ok .nx ((ρ.set i (some (.int (b : Int)))).set j (some (.int ((a % b : Nat) : Int)))) := by
  unfold gcdB dPar dOp dVar
  rw [hj]
  show ((match ρ[i]? with
    | some (some d) => R.ok d ρ
    | _ => .stuck).bind fun d1 r1 => (match r1[j]? with
    | some (some d) => R.ok d r1
    | _ => .stuck).bind fun d2 r2 => lift (gMod d1 d2) r2).bind _ = _
  rw [hi]
  show ((match ρ[j]? with
    | some (some d) => R.ok d ρ
    | _ => .stuck).bind fun d2 r2 => lift (gMod (.int (a : Int)) d2) r2).bind _ = _
  rw [hj]
  have e : gMod (.int (a : Int)) (.int (b : Int)) = some (.int ((a % b : Nat) : Int)) := by
    show (if (b : Int) ≠ 0 then some (PyData.int (Int.fmod a b)) else none) = _
    rw [if_pos (by omega), Int.fmod_eq_emod_of_nonneg _ (by omega)] <;> rfl
  show (lift (gMod (.int (a : Int)) (.int (b : Int))) ρ).bind _ = _
  rw [e]
  rfl
theorem set_get {ρ : Rho} {i j : Nat} {x y : Option D} (hij : i ≠ j) (hi : (ρ[i]?).isSome = true) (hj : (ρ[j]?).isSome = true) : ((ρ.set i x).set j y)[i]? = some x ∧ ((ρ.set i x).set j y)[j]? = some y := by
  have hi' : i < ρ.length := Nat.lt_of_not_le fun h => by rw [List.getElem?_eq_none h] at hi; cases hi
  have hj' : j < ρ.length := Nat.lt_of_not_le fun h => by rw [List.getElem?_eq_none h] at hj; cases hj
  constructor
  · rw [List.getElem?_set_ne (Ne.symm hij), List.getElem?_set_self hi']
  · rw [List.getElem?_set_self (by rw [List.length_set]; exact hj')]
theorem set2 {ρ : Rho} {i j : Nat} {x y z u : Option D} (hij : i ≠ j) : ((((ρ.set i x).set j y).set i z).set j u) = (ρ.set i z).set j u := by
  rw [List.set_comm _ _ (Ne.symm hij), List.set_set, List.set_set]
theorem gcd_while {i j : Nat} (hij : i ≠ j) : ∀ (k a b : Nat) (ρ : Rho) (n : Nat), b < 2 ^ k → 2 * k + 1 ≤ n → ρ[i]? = some (some (.int (a : Int))) → ρ[j]? = some (some (.int (b : Int))) →
    whileD (gcdT j) (gcdB i j) n ρ = .ok .nx ((ρ.set i (some (.int ((Nat.gcd a b : Nat) : Int)))).set j (some (.int 0)))
  | k, a, b, ρ, 0, hb, hn, hi, hj => by omega
  | k, a, b, ρ, n + 1, hb, hn, hi, hj => by
    rw [whileD_succ, gcdT_eq hj]
    by_cases h0 : b = 0
    · subst h0
      show R.ok Fl.nx ρ = _
      rw [Nat.gcd_zero_right]
      have e1 : ρ.set i (some (.int (a : Int))) = ρ := by
        rw [List.getElem?_eq_some_iff] at hi
        obtain ⟨h, e⟩ := hi
        rw [← e, List.set_getElem_self]
      have e2 : ρ.set j (some (.int 0)) = ρ := by
        rw [List.getElem?_eq_some_iff] at hj
        obtain ⟨h, e⟩ := hj
        have e' : ρ[j] = some (.int 0) := e
        rw [← e', List.set_getElem_self]
      rw [e1, e2]
    · have hp : 0 < b := by omega
      rw [decide_eq_true hp]
      show (gcdB i j ρ).bind _ = _
      rw [gcdB_eq hi hj hp]
      show whileD (gcdT j) (gcdB i j) n _ = _
      have hI : (ρ[i]?).isSome = true := by rw [hi] <;> rfl
      have hJ : (ρ[j]?).isSome = true := by rw [hj] <;> rfl
      obtain ⟨g1, g2⟩ := set_get (x := some (.int (b : Int))) (y := some (.int ((a % b : Nat) : Int))) hij hI hJ
      cases n with
      | zero =>
        cases k with
        | zero => simp at hb; omega
        | succ k => omega
      | succ n =>
        rw [whileD_succ, gcdT_eq g2]
        by_cases h1 : a % b = 0
        · rw [h1]
          show R.ok Fl.nx _ = _
          have : Nat.gcd a b = b := by rw [Nat.gcd_comm, Nat.gcd_rec, h1, Nat.gcd_zero_left]
          rw [this]
          rfl
        · have hq : 0 < a % b := by omega
          rw [decide_eq_true hq]
          show (gcdB i j _).bind _ = _
          rw [gcdB_eq g1 g2 hq]
          show whileD (gcdT j) (gcdB i j) n _ = _
          rw [set2 hij]
          obtain ⟨g3, g4⟩ := set_get (ρ := ρ) (x := some (.int ((a % b : Nat) : Int))) (y := some (.int ((b % (a % b) : Nat) : Int))) hij hI hJ
          have hh := mod_half hq (Nat.mod_lt a hp)
          cases k with
          | zero => simp at hb; omega
          | succ k =>
            rw [gcd_while hij k (a % b) (b % (a % b)) _ n (by rw [Nat.pow_succ] at hb; omega) (by omega) g3 g4, set2 hij]
            have : Nat.gcd (a % b) (b % (a % b)) = Nat.gcd a b := by
              rw [Nat.gcd_comm (a % b), ← Nat.gcd_rec (a % b) b, ← Nat.gcd_rec b a, Nat.gcd_comm]
            rw [this]
end Dn


/-! Sl2: rationals as pairs. -/
namespace Dn
open PySem PySem.Spec PyProof.Rows L2
/-- a rational as the program holds it -/
def fr (q : Rat) : D := .tuple [.int q.num, .int q.den]
/-- its size -/
class Sm (n : outParam Nat) (q : Rat) : Prop where
  num : q.num.natAbs < 2 ^ n
  den : q.den < 2 ^ n
theorem Sm.le {n m : Nat} {q : Rat} (h : Sm n q) (l : n ≤ m) : Sm m q := ⟨Nat.lt_of_lt_of_le h.num (Nat.pow_le_pow_right (by decide) l), Nat.lt_of_lt_of_le h.den (Nat.pow_le_pow_right (by decide) l)⟩
theorem bits_le {x : Int} {n : Nat} (h : x.natAbs < 2 ^ n) : bits x ≤ n := by
  unfold bits
  by_cases h0 : x.natAbs = 0
  · rw [h0] <;> simp
  · exact Nat.le_of_lt ((Nat.log2_lt h0).mpr h)
theorem bits_lt {x : Int} {n k : Nat} (h : x.natAbs < 2 ^ n) (hn : n ≤ k) (hk : 0 < k) : bits x < k := by
  unfold bits
  by_cases h0 : x.natAbs = 0
  · rw [h0] <;> simpa using hk
  · exact Nat.lt_of_lt_of_le ((Nat.log2_lt h0).mpr h) hn
theorem q_num (t b : Int) : ((t : Rat) / (b : Rat)).num = b.sign * t / ↑(b.gcd t) := by rw [← Rat.divInt_eq_div, Rat.num_divInt]
theorem q_den {t b : Int} (hb : b ≠ 0) : ((t : Rat) / (b : Rat)).den = b.natAbs / b.gcd t := by rw [← Rat.divInt_eq_div, Rat.den_divInt, if_neg hb]
theorem natAbs_ediv_le (a : Int) (g : Nat) (hg : 0 < g) (h : (g : Int) ∣ a) : (a / (g : Int)).natAbs ≤ a.natAbs := by
  obtain ⟨c, rfl⟩ := h
  rw [Int.mul_ediv_cancel_left _ (by omega), Int.natAbs_mul]
  exact Nat.le_mul_of_pos_left _ (by simpa using hg)
theorem sign_abs {b : Int} (hb : b ≠ 0) : b.sign.natAbs = 1 := by
  rcases Int.lt_trichotomy b 0 with h | h | h
  · rw [Int.sign_eq_neg_one_of_neg h] <;> rfl
  · exact absurd h hb
  · rw [Int.sign_eq_one_of_pos h] <;> rfl
theorem gcd_pos {t b : Int} (hb : b ≠ 0) : 0 < b.gcd t := Nat.pos_of_ne_zero fun h => hb (Int.gcd_eq_zero_iff.mp h).1
theorem Sm.of {t b : Int} {n : Nat} (hb : b ≠ 0) (ht : t.natAbs < 2 ^ n) (hb2 : b.natAbs < 2 ^ n) : Sm n ((t : Rat) / (b : Rat)) := by
  refine ⟨?_, ?_⟩
  · rw [q_num]
    refine Nat.lt_of_le_of_lt (natAbs_ediv_le _ _ (gcd_pos hb) ?_) ?_
    · exact Int.dvd_trans (Int.gcd_dvd_right b t) (Int.dvd_mul_left b.sign t)
    · rw [Int.natAbs_mul, sign_abs hb, Nat.one_mul]
      exact ht
  · rw [q_den hb]
    exact Nat.lt_of_le_of_lt (Nat.div_le_self _ _) hb2
theorem q_self (p : Rat) : (p.num : Rat) / ((p.den : Int) : Rat) = p := by rw [← Rat.divInt_eq_div, Rat.num_divInt_den]
theorem q_add (p q : Rat) : ((p.num * q.den + q.num * p.den : Int) : Rat) / ((p.den * q.den : Int) : Rat) = p + q := by
  rw [Rat.add_def', ← Rat.divInt_eq_div, ← Rat.divInt_ofNat]
  simp
theorem q_sub (p q : Rat) : ((p.num * q.den - q.num * p.den : Int) : Rat) / ((p.den * q.den : Int) : Rat) = p - q := by
  rw [Rat.sub_def, Rat.normalize_eq_mkRat, ← Rat.divInt_eq_div, ← Rat.divInt_ofNat]
  simp
theorem q_mul (p q : Rat) : ((p.num * q.num : Int) : Rat) / ((p.den * q.den : Int) : Rat) = p * q := by
  rw [← Rat.divInt_eq_div, ← Rat.divInt_mul_divInt, Rat.num_divInt_den, Rat.num_divInt_den]
theorem q_div (p q : Rat) : ((p.num * q.den : Int) : Rat) / ((p.den * q.num : Int) : Rat) = p / q := by
  rw [← Rat.divInt_eq_div, ← Rat.divInt_mul_divInt, Rat.num_divInt_den, Rat.div_def, Rat.inv_def]
theorem den_ne (p : Rat) : (p.den : Int) ≠ 0 := by have := p.den_nz; omega
theorem pow_mul {a b n m : Nat} (h1 : a < 2 ^ n) (h2 : b < 2 ^ m) : a * b < 2 ^ (n + m) := by
  rw [Nat.pow_add]
  exact Nat.mul_lt_mul'' h1 h2
theorem pow_mul1 {a b n m : Nat} (h1 : a < 2 ^ n) (h2 : b < 2 ^ m) : a * b < 2 ^ (n + m + 1) := Nat.lt_of_lt_of_le (pow_mul h1 h2) (Nat.pow_le_pow_right (by decide) (by omega))
theorem mul_abs {a b : Int} {n m : Nat} (h1 : a.natAbs < 2 ^ n) (h2 : b.natAbs < 2 ^ m) : (a * b).natAbs < 2 ^ (n + m) := by
  rw [Int.natAbs_mul]
  exact pow_mul h1 h2
theorem add_abs {a b : Int} {n m : Nat} (h1 : a.natAbs < 2 ^ (n + m)) (h2 : b.natAbs < 2 ^ (n + m)) : (a + b).natAbs < 2 ^ (n + m + 1) := by
  rw [Nat.pow_succ]
  omega
theorem sub_abs {a b : Int} {n m : Nat} (h1 : a.natAbs < 2 ^ (n + m)) (h2 : b.natAbs < 2 ^ (n + m)) : (a - b).natAbs < 2 ^ (n + m + 1) := by
  rw [Nat.pow_succ]
  omega
section
variable {n m : Nat} {p q : Rat}
theorem Sm.dn (h : Sm n p) : (p.den : Int).natAbs < 2 ^ n := by rw [Int.natAbs_natCast]; exact h.den
instance Sm.add [hp : Sm n p] [hq : Sm m q] : Sm (n + m + 1) (p + q) := by
  rw [← q_add]
  refine Sm.of (Int.mul_ne_zero (den_ne p) (den_ne q)) (add_abs (mul_abs hp.num hq.dn) ?_) ?_
  · rw [Nat.add_comm n m]; exact mul_abs hq.num hp.dn
  · rw [Int.natAbs_mul]
    exact pow_mul1 hp.dn hq.dn
instance Sm.sub [hp : Sm n p] [hq : Sm m q] : Sm (n + m + 1) (p - q) := by
  rw [← q_sub]
  refine Sm.of (Int.mul_ne_zero (den_ne p) (den_ne q)) (sub_abs (mul_abs hp.num hq.dn) ?_) ?_
  · rw [Nat.add_comm n m]; exact mul_abs hq.num hp.dn
  · rw [Int.natAbs_mul]
    exact pow_mul1 hp.dn hq.dn
instance Sm.mul [hp : Sm n p] [hq : Sm m q] : Sm (n + m) (p * q) := by
  rw [← q_mul]
  exact Sm.of (Int.mul_ne_zero (den_ne p) (den_ne q)) (mul_abs hp.num hq.num) (mul_abs hp.dn hq.dn)
instance Sm.div [hp : Sm n p] [hq : Sm m q] : Sm (n + m) (p / q) := by
  by_cases h : q = 0
  · subst h
    rw [Rat.div_def, Rat.inv_zero, Rat.mul_zero]
    exact ⟨Nat.two_pow_pos _, by show 1 < _; exact Nat.lt_of_le_of_lt p.den_pos (Nat.lt_of_lt_of_le hp.den (Nat.pow_le_pow_right (by decide) (by omega)))⟩
  · rw [← q_div]
    exact Sm.of (Int.mul_ne_zero (den_ne p) (fun e => h (Rat.num_eq_zero.mp e))) (mul_abs hp.num hq.dn) (mul_abs hp.dn hq.num)
instance Sm.neg [hp : Sm n p] : Sm n (-p) := ⟨by rw [Rat.neg_num, Int.natAbs_neg]; exact hp.num, by rw [Rat.neg_den]; exact hp.den⟩
instance Sm.zero : Sm 1 (0 : Rat) := ⟨by decide, by decide⟩
instance Sm.one : Sm 1 (1 : Rat) := ⟨by decide, by decide⟩
end
/-! ### its floor division -/
theorem fdiv_pos {t : Int} {g : Nat} (hg : 0 < g) : t.fdiv (g : Int) = t / (g : Int) := Int.fdiv_eq_ediv_of_nonneg _ (by omega)
theorem fdiv_neg' {t : Int} {g : Nat} (hg : 0 < g) : t.fdiv (-(g : Int)) = -t / (g : Int) := by
  rw [← Int.neg_fdiv_neg, Int.neg_neg]
  exact Int.fdiv_eq_ediv_of_nonneg _ (by omega)
end Dn


namespace Dn
/-! the denotations -/
def den_common : Den Fl := (dSeq (whileD (dTest (dOp none none gGt (dVar 1) (dC (.int 0)))) (dPar 0 1 (dVar 1) (dOp none none gMod (dVar 0) (dVar 1))) 100000000) (dRet (dVar 0)))
def fn_common : Fn := fnD 2 [] den_common
def den_frac : Den Fl := (dSeq (dSet 2 (dCall [] [none, none] [] [] fn_common (dCons (dCallB [none] gAbs (dCons (dVar 0) dNil)) (dCons (dCallB [none] gAbs (dCons (dVar 1) dNil)) dNil)))) (dSeq (dSet 2 (dIf (dTest (dOp none none gGt (dVar 1) (dC (.int 0)))) (dVar 2) (dNeg (dVar 2)))) (dRet (dTup (dCons (dOp none none gDiv (dVar 0) (dVar 2)) (dCons (dOp none none gDiv (dVar 1) (dVar 2)) dNil))))))
def fn_frac : Fn := fnD 3 [] den_frac
def den_minus : Den Fl := (dRet (dCall [] [none, none] [] [] fn_frac (dCons (dOp none none gSub (dOp none none gMul (dOp none none gIx (dVar 0) (dC (.int 0))) (dOp none none gIx (dVar 1) (dC (.int 1)))) (dOp none none gMul (dOp none none gIx (dVar 1) (dC (.int 0))) (dOp none none gIx (dVar 0) (dC (.int 1))))) (dCons (dOp none none gMul (dOp none none gIx (dVar 0) (dC (.int 1))) (dOp none none gIx (dVar 1) (dC (.int 1)))) dNil))))
def fn_minus : Fn := fnD 2 [] den_minus
def den_times : Den Fl := (dRet (dCall [] [none, none] [] [] fn_frac (dCons (dOp none none gMul (dOp none none gIx (dVar 0) (dC (.int 0))) (dOp none none gIx (dVar 1) (dC (.int 0)))) (dCons (dOp none none gMul (dOp none none gIx (dVar 0) (dC (.int 1))) (dOp none none gIx (dVar 1) (dC (.int 1)))) dNil))))
def fn_times : Fn := fnD 2 [] den_times
def den_law_cell_at : Den Fl := (dSeq (dIfS (dTest (dOp none none gLt (dVar 1) (dLenS 0))) (dRet (dIxS 0 (dVar 1))) dNx) (dRet (dC (.int 0))))
def fn_law_cell_at : Fn := fnD 2 [] den_law_cell_at
def den_law_box : Den Fl := (dSeq (dSet 2 (dCall [] [(some 0), none] [] [] fn_law_cell_at (dCons (dSlot 0) (dCons (dVar 1) dNil)))) (dRet (dLst (dCons (dOp none none gMul (dCallB [none] gAbs (dCons (dVar 2) dNil)) (dCallB [none] gInt (dCons (dOp none none gGe (dCallB [none] gAbs (dCons (dVar 2) dNil)) (dOp none none gPow (dC (.int 10)) (dC (.int 18)))) dNil))) (dCons (dOp none none gAdd (dOp none none gAdd (dOp none none gMod (dVar 2) (dC (.int 2305843009213693951))) (dOp none none gMul (dC (.int 39373)) (dVar 1))) (dC (.int 17))) (dCons (dC (.int 0)) dNil))))))
def fn_law_box : Fn := fnD 3 [] den_law_box
def den_law_take : Den Fl := (dSeq (dIfS (dTest (dOp none none gGt (dOp (some 0) none gIx (dSlot 0) (dC (.int 0))) (dC (.int 0)))) (dSeq (dSet 2 (dOp none none gMod (dOp (some 0) none gIx (dSlot 0) (dC (.int 0))) (dVar 1))) (dSeq (dSetIx 0 (dC (.int 0)) (dOp none none gDiv (dOp (some 0) none gIx (dSlot 0) (dC (.int 0))) (dVar 1))) (dRet (dVar 2)))) dNx) (dSeq (dSetIx 0 (dC (.int 2)) (dOp none none gAdd (dOp (some 0) none gIx (dSlot 0) (dC (.int 2))) (dC (.int 1)))) (dSeq (dSet 3 (dOp none none gMod (dOp none none gMul (dOp none none gAdd (dOp (some 0) none gIx (dSlot 0) (dC (.int 1))) (dOp none none gMul (dC (.int 48271)) (dOp (some 0) none gIx (dSlot 0) (dC (.int 2))))) (dOp none none gAdd (dC (.int 39373)) (dOp (some 0) none gIx (dSlot 0) (dC (.int 2))))) (dC (.int 2147483647)))) (dSeq (dSet 4 (dOp none none gMod (dOp none none gMul (dOp none none gAdd (dOp none none gAdd (dVar 3) (dOp (some 0) none gIx (dSlot 0) (dC (.int 2)))) (dOp none none gDiv (dOp (some 0) none gIx (dSlot 0) (dC (.int 1))) (dC (.int 1000003)))) (dOp none none gAdd (dOp none none gMod (dVar 3) (dC (.int 40009))) (dC (.int 7)))) (dC (.int 2147483629)))) (dRet (dOp none none gMod (dOp none none gDiv (dOp none none gMod (dOp none none gAdd (dOp none none gMul (dVar 4) (dC (.int 48271))) (dVar 3)) (dC (.int 2147483587))) (dC (.int 64))) (dVar 1)))))))
def fn_law_take : Fn := fnD 5 [0] den_law_take
def den_law_of : Den Fl := (dRet (dOp none none gIx (dVar 1) (dCall [0] [(some 0), none] [0] [] fn_law_take (dCons (dSlot 0) (dCons (dCallB [none] gLen (dCons (dVar 1) dNil)) dNil)))))
def fn_law_of : Fn := fnD 2 [0] den_law_of
def den_law_same (rec : Fn) : Den Fl := (dSeq (dIfS (dTest (dIsi "dict" none (dVar 1))) dNever dNx) (dSeq (dIfS (dTest (dIsi2 "list" "tuple" none (dVar 1))) (dSeq (dIfS (dOrT (dTest (dOp none none gNe (dIsi "list" none (dVar 0)) (dIsi "list" none (dVar 1)))) (dTest (dOp none none gNe (dIsi "tuple" none (dVar 0)) (dIsi "tuple" none (dVar 1))))) (dRet (dC (.bool false))) dNx) (dRet (dAnd (dOp none none gEq (dCallB [none] gLen (dCons (dVar 0) dNil)) (dCallB [none] gLen (dCons (dVar 1) dNil))) (dCallB [none] gAll (dCons (dLc [3, 4] (iZipM (dCons (dVar 0) (dCons (dVar 1) dNil))) (tSq' 2 (tCons' (tN 3) (tCons' (tN 4) tNil'))) dYes (dCall [] [none, none] [] [] rec (dCons (dVar 3) (dCons (dVar 4) dNil)))) dNil))))) dNx) (dSeq (dIfS (dOrT (dTest (dOp none none gIs (dVar 1) (dC .none))) (dTest (dIsi2 "bool" "str" none (dVar 1)))) (dRet (dAnd (dOp none none gEq (dVar 0) (dVar 1)) (dAnd (dOp none none gEq (dIsi "bool" none (dVar 0)) (dIsi "bool" none (dVar 1))) (dOp none none gEq (dOp none none gIs (dVar 0) (dC .none)) (dOp none none gIs (dVar 1) (dC .none)))))) dNx) (dRet (dAnd (dIsi "int" none (dVar 0)) (dAnd (dNot (dIsi "bool" none (dVar 0))) (dOp none none gEq (dVar 0) (dVar 1))))))))
def fn_law_same : Nat → Fn
  | 0 => fun _ => .stuck
  | n + 1 => fnD 5 [] (den_law_same (fn_law_same n))
def den_law_frac : Den Fl := (dSeq (dPar 2 3 (dCallB [none] gAbs (dCons (dVar 0) dNil)) (dCallB [none] gAbs (dCons (dVar 1) dNil))) (dSeq (whileD (dTest (dOp none none gGt (dVar 3) (dC (.int 0)))) (dPar 2 3 (dVar 3) (dOp none none gMod (dVar 2) (dVar 3))) 100000000) (dSeq (dSet 4 (dIf (dTest (dOp none none gGt (dVar 1) (dC (.int 0)))) (dC (.int 1)) (dNeg (dC (.int 1))))) (dRet (dTup (dCons (dOp none none gDiv (dOp none none gMul (dVar 4) (dVar 0)) (dVar 2)) (dCons (dOp none none gDiv (dCallB [none] gAbs (dCons (dVar 1) dNil)) (dVar 2)) dNil)))))))
def fn_law_frac : Fn := fnD 5 [] den_law_frac
def den_law_plus : Den Fl := (dRet (dCall [] [none, none] [] [] fn_law_frac (dCons (dOp none none gAdd (dOp none none gMul (dOp none none gIx (dVar 0) (dC (.int 0))) (dOp none none gIx (dVar 1) (dC (.int 1)))) (dOp none none gMul (dOp none none gIx (dVar 1) (dC (.int 0))) (dOp none none gIx (dVar 0) (dC (.int 1))))) (dCons (dOp none none gMul (dOp none none gIx (dVar 0) (dC (.int 1))) (dOp none none gIx (dVar 1) (dC (.int 1)))) dNil))))
def fn_law_plus : Fn := fnD 2 [] den_law_plus
def den_law_less : Den Fl := (dRet (dCall [] [none, none] [] [] fn_law_frac (dCons (dOp none none gSub (dOp none none gMul (dOp none none gIx (dVar 0) (dC (.int 0))) (dOp none none gIx (dVar 1) (dC (.int 1)))) (dOp none none gMul (dOp none none gIx (dVar 1) (dC (.int 0))) (dOp none none gIx (dVar 0) (dC (.int 1))))) (dCons (dOp none none gMul (dOp none none gIx (dVar 0) (dC (.int 1))) (dOp none none gIx (dVar 1) (dC (.int 1)))) dNil))))
def fn_law_less : Fn := fnD 2 [] den_law_less
def den_law_times : Den Fl := (dRet (dCall [] [none, none] [] [] fn_law_frac (dCons (dOp none none gMul (dOp none none gIx (dVar 0) (dC (.int 0))) (dOp none none gIx (dVar 1) (dC (.int 0)))) (dCons (dOp none none gMul (dOp none none gIx (dVar 0) (dC (.int 1))) (dOp none none gIx (dVar 1) (dC (.int 1)))) dNil))))
def fn_law_times : Fn := fnD 2 [] den_law_times
def den_law_met : Den Fl := (dSeq (dSet 3 (dTup (dCons (dC (.int 1)) (dCons (dC (.int 1)) dNil)))) (dSeq (dSet 4 (dCall [] [none, none] [] [] fn_law_plus (dCons (dCall [] [none, none] [] [] fn_law_times (dCons (dVar 0) (dCons (dVar 1) dNil))) (dCons (dCall [] [none, none] [] [] fn_law_times (dCons (dCall [] [none, none] [] [] fn_law_less (dCons (dVar 3) (dCons (dVar 0) dNil))) (dCons (dVar 2) dNil))) dNil)))) (dRet (dTup (dCons (dVar 4) (dCons (dCall [] [none, none] [] [] fn_law_less (dCons (dCall [] [none, none] [] [] fn_law_times (dCons (dCall [] [none, none] [] [] fn_law_plus (dCons (dVar 3) (dCons (dVar 0) dNil))) (dCons (dVar 1) dNil))) (dCons (dCall [] [none, none] [] [] fn_law_times (dCons (dVar 0) (dCons (dVar 2) dNil))) dNil))) dNil))))))
def fn_law_met : Fn := fnD 5 [] den_law_met
end Dn


/-! Sl3: the pairs' functions. -/
namespace Dn
open PySem PySem.Spec PyProof.Rows L2
theorem atI_nat {α : Type} (xs : List α) (k : Nat) : atI xs (k : Int) = xs[k]? := by
  unfold atI ixN
  rw [if_pos (by omega)]
  by_cases h : k < xs.length
  · rw [if_pos (by omega)]
    rfl
  · rw [if_neg (by omega), List.getElem?_eq_none (by omega)]
    rfl
theorem gIx0 {a : D} {l : List D} : gIx (.tuple (a :: l)) (.int 0) = some a := atI_nat (a :: l) 0
theorem gIx1 {a b : D} {l : List D} : gIx (.tuple (a :: b :: l)) (.int 1) = some b := atI_nat (a :: b :: l) 1
theorem gIx2 {a b c : D} {l : List D} : gIx (.tuple (a :: b :: c :: l)) (.int 2) = some c := atI_nat (a :: b :: c :: l) 2
theorem gIxL0 {a : D} {l : List D} : gIx (.list (a :: l)) (.int 0) = some a := atI_nat (a :: l) 0
theorem gIxL1 {a b : D} {l : List D} : gIx (.list (a :: b :: l)) (.int 1) = some b := atI_nat (a :: b :: l) 1
theorem gIxL2 {a b c : D} {l : List D} : gIx (.list (a :: b :: c :: l)) (.int 2) = some c := atI_nat (a :: b :: c :: l) 2
theorem ixN_nat (n k : Nat) (h : k < n) : ixN n (k : Int) = some k := by
  unfold ixN
  rw [if_pos (by omega), if_pos (by omega)]
  rfl
theorem gSet0 {a x : D} {l : List D} : gSetIx (.list (a :: l)) (.int 0) x = some (.list (x :: l)) := by
  show (match ixN (l.length + 1) ((0 : Nat) : Int) with | some j => some (PyData.list ((a :: l).set j x)) | none => none) = _
  rw [ixN_nat _ 0 (by omega)]
  rfl
theorem gSet1 {a b x : D} {l : List D} : gSetIx (.list (a :: b :: l)) (.int 1) x = some (.list (a :: x :: l)) := by
  show (match ixN (l.length + 1 + 1) ((1 : Nat) : Int) with | some j => some (PyData.list ((a :: b :: l).set j x)) | none => none) = _
  rw [ixN_nat _ 1 (by omega)]
  rfl
theorem gSet2 {a b c x : D} {l : List D} : gSetIx (.list (a :: b :: c :: l)) (.int 2) x = some (.list (a :: b :: x :: l)) := by
  show (match ixN (l.length + 1 + 1 + 1) ((2 : Nat) : Int) with | some j => some (PyData.list ((a :: b :: c :: l).set j x)) | none => none) = _
  rw [ixN_nat _ 2 (by omega)]
  rfl
theorem gAddI (i j : Int) : gAdd (.int i) (.int j) = some (.int (i + j)) := rfl
theorem gSubI (i j : Int) : gSub (.int i) (.int j) = some (.int (i - j)) := rfl
theorem gMulI (i j : Int) (h : bits i + bits j < 100000000) : gMul (.int i) (.int j) = some (.int (i * j)) := if_pos h
theorem gDivI (i j : Int) (h : j ≠ 0 ∧ bits j < 9000) : gDiv (.int i) (.int j) = some (.int (i.fdiv j)) := if_pos h
theorem gModI (i j : Int) (h : j ≠ 0) : gMod (.int i) (.int j) = some (.int (i.fmod j)) := if_pos h
theorem gSqL {ds : List D} : gSq (.list ds) = some ds := rfl
theorem gSqT {ds : List D} : gSq (.tuple ds) = some ds := rfl
theorem abs_nat (t : Int) : (if t < 0 then -t else t) = ((t.natAbs : Nat) : Int) := by
  split <;> omega
theorem sem_common (a b : Nat) (h : b < 2 ^ 9000) : fn_common [.int (a : Int), .int (b : Int)] = .ok (.int ((Nat.gcd a b : Nat) : Int)) [] := by
  unfold fn_common fnD den_common dSeq
  have := gcd_while (i := 0) (j := 1) (by decide) 9000 a b [some (.int (a : Int)), some (.int (b : Int))] 100000000 h (by decide) rfl rfl
  simp only [List.map_cons, List.map_nil, List.length_cons, List.length_nil, List.replicate_zero, List.append_nil, this, Nat.sub_self, Nat.zero_add, Nat.reduceAdd, Nat.reduceSub]
  rfl
theorem gcd_swap (t b : Int) : Nat.gcd t.natAbs b.natAbs = b.gcd t := by rw [Nat.gcd_comm] <;> rfl
theorem bits_gcd {t b : Int} (hb : b ≠ 0) (h : bits b < 9000) : bits ((b.gcd t : Nat) : Int) < 9000 := by
  have h1 : b.natAbs < 2 ^ 9000 := by
    rw [← Nat.log2_lt (by omega)]
    exact h
  refine bits_lt (n := 9000) (Nat.lt_of_le_of_lt ?_ h1) (Nat.le_refl _) (by decide)
  rw [Int.natAbs_natCast]
  exact Nat.le_of_dvd (by omega) (Int.natAbs_dvd_natAbs.mpr (Int.gcd_dvd_left b t))
theorem bits_neg (x : Int) : bits (-x) = bits x := by unfold bits; rw [Int.natAbs_neg]
theorem sem_frac {t b : Int} (hb : b ≠ 0) (h : bits b < 9000) : fn_frac [.int t, .int b] = .ok (fr ((t : Rat) / (b : Rat))) [] := by
  have h1 : b.natAbs < 2 ^ 9000 := by
    rw [← Nat.log2_lt (by omega)]
    exact h
  have hg := gcd_pos (t := t) hb
  have hbg := bits_gcd (t := t) hb h
  unfold fr
  rcases Int.lt_trichotomy b 0 with hn | hz | hp
  · have hq : -((b.gcd t : Nat) : Int) ≠ 0 ∧ bits (-((b.gcd t : Nat) : Int)) < 9000 := ⟨by omega, by rw [bits_neg]; exact hbg⟩
    simp (disch := assumption) only [fn_frac, den_frac, fnD, dSeq, dSet, dRet, dRetS, dRetN, dCall, dCallB, dCallO, dCons, dNil, dVar, dSlot, dC, dOp, dIf, dIfS, dNx, dTest, dNotT, dAndT, dOrT, dAnd, dOr, dNot, dNeg, dTup, dLst, dPar, dAsg, dSetIx, dApp, dLenS, dIxS, atL, res, resA, lift, wb, R.bind, R.bind_ok, R.bind_exc, tN, tNil', tCons', tTup', tSq', gSqL, gSqT, gAddI, gSubI, gMulI, gDivI, gModI, gAbs, gInt, gLen, gMax, gMin, gGt, gLt, gGe, gLe, List.map_cons, List.map_nil, List.length_cons, List.length_nil, List.replicate_succ, List.replicate_zero, List.cons_append, List.nil_append, List.append_nil, List.getElem?_cons_zero, List.getElem?_cons_succ, List.getElem?_nil, List.set_cons_zero, List.set_cons_succ, Option.join_some, Option.join_none, Option.bind_some, Option.bind_none, Nat.zero_add, Nat.reduceAdd, Nat.reduceSub, Nat.sub_zero, if_true, Bool.false_eq_true, if_false, ite_true, ite_false, gSet0, gSet1, gSet2, gIx0, gIx1, gIx2, gIxL0, gIxL1, gIxL2, gCmp, decide_true, decide_false, Bool.not_true, Bool.not_false, Option.map_some, liftL, iVal, iArg, abs_nat, sem_common _ _ h1, gcd_swap, decide_eq_false (show ¬ (0 < b) by omega)]
    rw [fdiv_neg' hg, fdiv_neg' hg, q_num, q_den hb, Int.sign_eq_neg_one_of_neg hn]
    have e1 : -1 * t = -t := by omega
    have e2 : -b = ((b.natAbs : Nat) : Int) := by omega
    rw [e1, e2, Int.natCast_ediv]
  · exact absurd hz hb
  · have hq : ((b.gcd t : Nat) : Int) ≠ 0 ∧ bits ((b.gcd t : Nat) : Int) < 9000 := ⟨by omega, hbg⟩
    simp (disch := assumption) only [fn_frac, den_frac, fnD, dSeq, dSet, dRet, dRetS, dRetN, dCall, dCallB, dCallO, dCons, dNil, dVar, dSlot, dC, dOp, dIf, dIfS, dNx, dTest, dNotT, dAndT, dOrT, dAnd, dOr, dNot, dNeg, dTup, dLst, dPar, dAsg, dSetIx, dApp, dLenS, dIxS, atL, res, resA, lift, wb, R.bind, R.bind_ok, R.bind_exc, tN, tNil', tCons', tTup', tSq', gSqL, gSqT, gAddI, gSubI, gMulI, gDivI, gModI, gAbs, gInt, gLen, gMax, gMin, gGt, gLt, gGe, gLe, List.map_cons, List.map_nil, List.length_cons, List.length_nil, List.replicate_succ, List.replicate_zero, List.cons_append, List.nil_append, List.append_nil, List.getElem?_cons_zero, List.getElem?_cons_succ, List.getElem?_nil, List.set_cons_zero, List.set_cons_succ, Option.join_some, Option.join_none, Option.bind_some, Option.bind_none, Nat.zero_add, Nat.reduceAdd, Nat.reduceSub, Nat.sub_zero, if_true, Bool.false_eq_true, if_false, ite_true, ite_false, gSet0, gSet1, gSet2, gIx0, gIx1, gIx2, gIxL0, gIxL1, gIxL2, gCmp, decide_true, decide_false, Bool.not_true, Bool.not_false, Option.map_some, liftL, iVal, iArg, abs_nat, sem_common _ _ h1, gcd_swap, decide_eq_true (show 0 < b by omega)]
    rw [fdiv_pos hg, fdiv_pos hg, q_num, q_den hb, Int.sign_eq_one_of_pos hp]
    have e1 : 1 * t = t := by omega
    have e2 : b = ((b.natAbs : Nat) : Int) := by omega
    rw [e1, Int.natCast_ediv, ← e2]
theorem sem_law_frac {t b : Int} (hb : b ≠ 0) (ht : bits t < 9000) (h : bits b < 9000) : fn_law_frac [.int t, .int b] = .ok (fr ((t : Rat) / (b : Rat))) [] := by
  have h1 : b.natAbs < 2 ^ 9000 := by
    rw [← Nat.log2_lt (by omega)]
    exact h
  have hg := gcd_pos (t := t) hb
  have hbg := bits_gcd (t := t) hb h
  have hw := gcd_while (i := 2) (j := 3) (by decide) 9000 t.natAbs b.natAbs [some (.int t), some (.int b), some (.int (t.natAbs : Int)), some (.int (b.natAbs : Int)), none] 100000000 h1 (by decide) rfl rfl
  simp only [gcdT, gcdB, gcd_swap] at hw
  unfold fr
  have bs : bits b.sign < 9000 := by
    unfold bits
    rw [sign_abs hb]
    decide
  rcases Int.lt_trichotomy b 0 with hn | hz | hp
  · have hq : ((b.gcd t : Nat) : Int) ≠ 0 ∧ bits ((b.gcd t : Nat) : Int) < 9000 := ⟨by omega, hbg⟩
    have hm : bits (-1) + bits t < 100000000 := by have : bits (-1) = 0 := rfl; omega
    simp (disch := assumption) only [fn_law_frac, den_law_frac, fnD, dSeq, dSet, dRet, dRetS, dRetN, dCall, dCallB, dCallO, dCons, dNil, dVar, dSlot, dC, dOp, dIf, dIfS, dNx, dTest, dNotT, dAndT, dOrT, dAnd, dOr, dNot, dNeg, dTup, dLst, dPar, dAsg, dSetIx, dApp, dLenS, dIxS, atL, res, resA, lift, wb, R.bind, R.bind_ok, R.bind_exc, tN, tNil', tCons', tTup', tSq', gSqL, gSqT, gAddI, gSubI, gMulI, gDivI, gModI, gAbs, gInt, gLen, gMax, gMin, gGt, gLt, gGe, gLe, List.map_cons, List.map_nil, List.length_cons, List.length_nil, List.replicate_succ, List.replicate_zero, List.cons_append, List.nil_append, List.append_nil, List.getElem?_cons_zero, List.getElem?_cons_succ, List.getElem?_nil, List.set_cons_zero, List.set_cons_succ, Option.join_some, Option.join_none, Option.bind_some, Option.bind_none, Nat.zero_add, Nat.reduceAdd, Nat.reduceSub, Nat.sub_zero, if_true, Bool.false_eq_true, if_false, ite_true, ite_false, gSet0, gSet1, gSet2, gIx0, gIx1, gIx2, gIxL0, gIxL1, gIxL2, gCmp, decide_true, decide_false, Bool.not_true, Bool.not_false, Option.map_some, liftL, iVal, iArg, abs_nat, hw, decide_eq_false (show ¬ (0 < b) by omega)]
    rw [fdiv_pos hg, fdiv_pos hg, q_num, q_den hb, Int.sign_eq_neg_one_of_neg hn, Int.natCast_ediv]
  · exact absurd hz hb
  · have hq : ((b.gcd t : Nat) : Int) ≠ 0 ∧ bits ((b.gcd t : Nat) : Int) < 9000 := ⟨by omega, hbg⟩
    have hm : bits (1) + bits t < 100000000 := by have : bits (1) = 0 := rfl; omega
    simp (disch := assumption) only [fn_law_frac, den_law_frac, fnD, dSeq, dSet, dRet, dRetS, dRetN, dCall, dCallB, dCallO, dCons, dNil, dVar, dSlot, dC, dOp, dIf, dIfS, dNx, dTest, dNotT, dAndT, dOrT, dAnd, dOr, dNot, dNeg, dTup, dLst, dPar, dAsg, dSetIx, dApp, dLenS, dIxS, atL, res, resA, lift, wb, R.bind, R.bind_ok, R.bind_exc, tN, tNil', tCons', tTup', tSq', gSqL, gSqT, gAddI, gSubI, gMulI, gDivI, gModI, gAbs, gInt, gLen, gMax, gMin, gGt, gLt, gGe, gLe, List.map_cons, List.map_nil, List.length_cons, List.length_nil, List.replicate_succ, List.replicate_zero, List.cons_append, List.nil_append, List.append_nil, List.getElem?_cons_zero, List.getElem?_cons_succ, List.getElem?_nil, List.set_cons_zero, List.set_cons_succ, Option.join_some, Option.join_none, Option.bind_some, Option.bind_none, Nat.zero_add, Nat.reduceAdd, Nat.reduceSub, Nat.sub_zero, if_true, Bool.false_eq_true, if_false, ite_true, ite_false, gSet0, gSet1, gSet2, gIx0, gIx1, gIx2, gIxL0, gIxL1, gIxL2, gCmp, decide_true, decide_false, Bool.not_true, Bool.not_false, Option.map_some, liftL, iVal, iArg, abs_nat, hw, decide_eq_true (show 0 < b by omega)]
    rw [fdiv_pos hg, fdiv_pos hg, q_num, q_den hb, Int.sign_eq_one_of_pos hp, Int.natCast_ediv]
end Dn


/-! Sl4: the pairs' arithmetic. -/
namespace Dn
open PySem PySem.Spec PyProof.Rows L2
section
variable {n m : Nat} {p q : Rat}
theorem gIxF0 : gIx (fr p) (.int 0) = some (.int p.num) := gIx0
theorem gIxF1 : gIx (fr p) (.int 1) = some (.int p.den) := gIx1
theorem bn (hp : Sm n p) : bits p.num ≤ n := bits_le hp.num
theorem bd (hp : Sm n p) : bits (p.den : Int) ≤ n := bits_le hp.dn
theorem sem_law_plus [hp : Sm n p] [hq : Sm m q] (h : n + m < 8000) : fn_law_plus [fr p, fr q] = .ok (fr (p + q)) [] := by
  have := bn hp; have := bn hq; have := bd hp; have := bd hq
  have h1 : bits p.num + bits (q.den : Int) < 100000000 := by omega
  have h2 : bits q.num + bits (p.den : Int) < 100000000 := by omega
  have h3 : bits (p.den : Int) + bits (q.den : Int) < 100000000 := by omega
  have hs : (p.num * q.den + q.num * p.den).natAbs < 2 ^ (n + m + 1) := add_abs (mul_abs hp.num hq.dn) (by rw [Nat.add_comm n m]; exact mul_abs hq.num hp.dn)
  simp (disch := assumption) only [fn_law_plus, den_law_plus, fnD, dSeq, dSet, dRet, dRetS, dRetN, dCall, dCallB, dCallO, dCons, dNil, dVar, dSlot, dC, dOp, dIf, dIfS, dNx, dTest, dNotT, dAndT, dOrT, dAnd, dOr, dNot, dNeg, dTup, dLst, dPar, dAsg, dSetIx, dApp, dLenS, dIxS, atL, res, resA, lift, wb, R.bind, R.bind_ok, R.bind_exc, tN, tNil', tCons', tTup', tSq', gSqL, gSqT, gAddI, gSubI, gMulI, gDivI, gModI, gAbs, gInt, gLen, gMax, gMin, gGt, gLt, gGe, gLe, List.map_cons, List.map_nil, List.length_cons, List.length_nil, List.replicate_succ, List.replicate_zero, List.cons_append, List.nil_append, List.append_nil, List.getElem?_cons_zero, List.getElem?_cons_succ, List.getElem?_nil, List.set_cons_zero, List.set_cons_succ, Option.join_some, Option.join_none, Option.bind_some, Option.bind_none, Nat.zero_add, Nat.reduceAdd, Nat.reduceSub, Nat.sub_zero, if_true, Bool.false_eq_true, if_false, ite_true, ite_false, gSet0, gSet1, gSet2, gIx0, gIx1, gIx2, gIxL0, gIxL1, gIxL2, gCmp, decide_true, decide_false, Bool.not_true, Bool.not_false, Option.map_some, liftL, iVal, iArg, gIxF0, gIxF1]
  rw [sem_law_frac (Int.mul_ne_zero (den_ne p) (den_ne q)) (bits_lt hs (by omega) (by decide)) (bits_lt (mul_abs hp.dn hq.dn) (by omega) (by decide)), q_add]
theorem sem_minus [hp : Sm n p] [hq : Sm m q] (h : n + m < 8000) : fn_minus [fr p, fr q] = .ok (fr (p - q)) [] := by
  have := bn hp; have := bn hq; have := bd hp; have := bd hq
  have h1 : bits p.num + bits (q.den : Int) < 100000000 := by omega
  have h2 : bits q.num + bits (p.den : Int) < 100000000 := by omega
  have h3 : bits (p.den : Int) + bits (q.den : Int) < 100000000 := by omega
  simp (disch := assumption) only [fn_minus, den_minus, fnD, dSeq, dSet, dRet, dRetS, dRetN, dCall, dCallB, dCallO, dCons, dNil, dVar, dSlot, dC, dOp, dIf, dIfS, dNx, dTest, dNotT, dAndT, dOrT, dAnd, dOr, dNot, dNeg, dTup, dLst, dPar, dAsg, dSetIx, dApp, dLenS, dIxS, atL, res, resA, lift, wb, R.bind, R.bind_ok, R.bind_exc, tN, tNil', tCons', tTup', tSq', gSqL, gSqT, gAddI, gSubI, gMulI, gDivI, gModI, gAbs, gInt, gLen, gMax, gMin, gGt, gLt, gGe, gLe, List.map_cons, List.map_nil, List.length_cons, List.length_nil, List.replicate_succ, List.replicate_zero, List.cons_append, List.nil_append, List.append_nil, List.getElem?_cons_zero, List.getElem?_cons_succ, List.getElem?_nil, List.set_cons_zero, List.set_cons_succ, Option.join_some, Option.join_none, Option.bind_some, Option.bind_none, Nat.zero_add, Nat.reduceAdd, Nat.reduceSub, Nat.sub_zero, if_true, Bool.false_eq_true, if_false, ite_true, ite_false, gSet0, gSet1, gSet2, gIx0, gIx1, gIx2, gIxL0, gIxL1, gIxL2, gCmp, decide_true, decide_false, Bool.not_true, Bool.not_false, Option.map_some, liftL, iVal, iArg, gIxF0, gIxF1]
  rw [sem_frac (Int.mul_ne_zero (den_ne p) (den_ne q)) (bits_lt (mul_abs hp.dn hq.dn) (by omega) (by decide)), q_sub]
theorem sem_law_less [hp : Sm n p] [hq : Sm m q] (h : n + m < 8000) : fn_law_less [fr p, fr q] = .ok (fr (p - q)) [] := by
  have := bn hp; have := bn hq; have := bd hp; have := bd hq
  have h1 : bits p.num + bits (q.den : Int) < 100000000 := by omega
  have h2 : bits q.num + bits (p.den : Int) < 100000000 := by omega
  have h3 : bits (p.den : Int) + bits (q.den : Int) < 100000000 := by omega
  have hs : (p.num * q.den - q.num * p.den).natAbs < 2 ^ (n + m + 1) := sub_abs (mul_abs hp.num hq.dn) (by rw [Nat.add_comm n m]; exact mul_abs hq.num hp.dn)
  simp (disch := assumption) only [fn_law_less, den_law_less, fnD, dSeq, dSet, dRet, dRetS, dRetN, dCall, dCallB, dCallO, dCons, dNil, dVar, dSlot, dC, dOp, dIf, dIfS, dNx, dTest, dNotT, dAndT, dOrT, dAnd, dOr, dNot, dNeg, dTup, dLst, dPar, dAsg, dSetIx, dApp, dLenS, dIxS, atL, res, resA, lift, wb, R.bind, R.bind_ok, R.bind_exc, tN, tNil', tCons', tTup', tSq', gSqL, gSqT, gAddI, gSubI, gMulI, gDivI, gModI, gAbs, gInt, gLen, gMax, gMin, gGt, gLt, gGe, gLe, List.map_cons, List.map_nil, List.length_cons, List.length_nil, List.replicate_succ, List.replicate_zero, List.cons_append, List.nil_append, List.append_nil, List.getElem?_cons_zero, List.getElem?_cons_succ, List.getElem?_nil, List.set_cons_zero, List.set_cons_succ, Option.join_some, Option.join_none, Option.bind_some, Option.bind_none, Nat.zero_add, Nat.reduceAdd, Nat.reduceSub, Nat.sub_zero, if_true, Bool.false_eq_true, if_false, ite_true, ite_false, gSet0, gSet1, gSet2, gIx0, gIx1, gIx2, gIxL0, gIxL1, gIxL2, gCmp, decide_true, decide_false, Bool.not_true, Bool.not_false, Option.map_some, liftL, iVal, iArg, gIxF0, gIxF1]
  rw [sem_law_frac (Int.mul_ne_zero (den_ne p) (den_ne q)) (bits_lt hs (by omega) (by decide)) (bits_lt (mul_abs hp.dn hq.dn) (by omega) (by decide)), q_sub]
theorem sem_times [hp : Sm n p] [hq : Sm m q] (h : n + m < 8000) : fn_times [fr p, fr q] = .ok (fr (p * q)) [] := by
  have := bn hp; have := bn hq; have := bd hp; have := bd hq
  have h1 : bits p.num + bits q.num < 100000000 := by omega
  have h3 : bits (p.den : Int) + bits (q.den : Int) < 100000000 := by omega
  simp (disch := assumption) only [fn_times, den_times, fnD, dSeq, dSet, dRet, dRetS, dRetN, dCall, dCallB, dCallO, dCons, dNil, dVar, dSlot, dC, dOp, dIf, dIfS, dNx, dTest, dNotT, dAndT, dOrT, dAnd, dOr, dNot, dNeg, dTup, dLst, dPar, dAsg, dSetIx, dApp, dLenS, dIxS, atL, res, resA, lift, wb, R.bind, R.bind_ok, R.bind_exc, tN, tNil', tCons', tTup', tSq', gSqL, gSqT, gAddI, gSubI, gMulI, gDivI, gModI, gAbs, gInt, gLen, gMax, gMin, gGt, gLt, gGe, gLe, List.map_cons, List.map_nil, List.length_cons, List.length_nil, List.replicate_succ, List.replicate_zero, List.cons_append, List.nil_append, List.append_nil, List.getElem?_cons_zero, List.getElem?_cons_succ, List.getElem?_nil, List.set_cons_zero, List.set_cons_succ, Option.join_some, Option.join_none, Option.bind_some, Option.bind_none, Nat.zero_add, Nat.reduceAdd, Nat.reduceSub, Nat.sub_zero, if_true, Bool.false_eq_true, if_false, ite_true, ite_false, gSet0, gSet1, gSet2, gIx0, gIx1, gIx2, gIxL0, gIxL1, gIxL2, gCmp, decide_true, decide_false, Bool.not_true, Bool.not_false, Option.map_some, liftL, iVal, iArg, gIxF0, gIxF1]
  rw [sem_frac (Int.mul_ne_zero (den_ne p) (den_ne q)) (bits_lt (mul_abs hp.dn hq.dn) (by omega) (by decide)), q_mul]
theorem sem_law_times [hp : Sm n p] [hq : Sm m q] (h : n + m < 8000) : fn_law_times [fr p, fr q] = .ok (fr (p * q)) [] := by
  have := bn hp; have := bn hq; have := bd hp; have := bd hq
  have h1 : bits p.num + bits q.num < 100000000 := by omega
  have h3 : bits (p.den : Int) + bits (q.den : Int) < 100000000 := by omega
  simp (disch := assumption) only [fn_law_times, den_law_times, fnD, dSeq, dSet, dRet, dRetS, dRetN, dCall, dCallB, dCallO, dCons, dNil, dVar, dSlot, dC, dOp, dIf, dIfS, dNx, dTest, dNotT, dAndT, dOrT, dAnd, dOr, dNot, dNeg, dTup, dLst, dPar, dAsg, dSetIx, dApp, dLenS, dIxS, atL, res, resA, lift, wb, R.bind, R.bind_ok, R.bind_exc, tN, tNil', tCons', tTup', tSq', gSqL, gSqT, gAddI, gSubI, gMulI, gDivI, gModI, gAbs, gInt, gLen, gMax, gMin, gGt, gLt, gGe, gLe, List.map_cons, List.map_nil, List.length_cons, List.length_nil, List.replicate_succ, List.replicate_zero, List.cons_append, List.nil_append, List.append_nil, List.getElem?_cons_zero, List.getElem?_cons_succ, List.getElem?_nil, List.set_cons_zero, List.set_cons_succ, Option.join_some, Option.join_none, Option.bind_some, Option.bind_none, Nat.zero_add, Nat.reduceAdd, Nat.reduceSub, Nat.sub_zero, if_true, Bool.false_eq_true, if_false, ite_true, ite_false, gSet0, gSet1, gSet2, gIx0, gIx1, gIx2, gIxL0, gIxL1, gIxL2, gCmp, decide_true, decide_false, Bool.not_true, Bool.not_false, Option.map_some, liftL, iVal, iArg, gIxF0, gIxF1]
  rw [sem_law_frac (Int.mul_ne_zero (den_ne p) (den_ne q)) (bits_lt (mul_abs hp.num hq.num) (by omega) (by decide)) (bits_lt (mul_abs hp.dn hq.dn) (by omega) (by decide)), q_mul]
theorem fr_one : PyData.tuple [.int 1, .int 1] = fr 1 := rfl
end
end Dn


/-! Sl5: the draws. -/
namespace Dn
open PySem PySem.Spec PyProof.Rows L2
/-- the box of draws, B draws behind -/
structure Box (B : Nat) (d : D) : Prop where
  ex : ∃ (core salt : Int) (cnt : Nat), d = .list [.int core, .int salt, .int (cnt : Int)] ∧ salt.natAbs < 2 ^ 1000 ∧ cnt ≤ B
theorem Box.mono {B C : Nat} {d : D} (h : Box B d) (l : B ≤ C) : Box C d := by
  obtain ⟨a, b, c, h1, h2, h3⟩ := h.ex
  exact ⟨a, b, c, h1, h2, Nat.le_trans h3 l⟩
theorem fmod_lt {a s : Int} (h : 0 < s) : 0 ≤ a.fmod s ∧ a.fmod s < s := by
  rw [Int.fmod_eq_emod_of_nonneg _ (by omega)]
  exact ⟨Int.emod_nonneg _ (by omega), Int.emod_lt_of_pos _ h⟩
theorem fdiv_small {x m : Int} {n : Nat} (hm : 0 < m) (h : x.natAbs < 2 ^ n) : (x.fdiv m).natAbs ≤ 2 ^ n := by
  rw [Int.fdiv_eq_ediv_of_nonneg _ (by omega)]
  have := Int.natAbs_ediv_le_natAbs x m
  omega
theorem bits_lit (n : Nat) {x : Int} (h : x.natAbs < 2 ^ n) : bits x ≤ n := bits_le h
theorem fmod_small {a m : Int} {n : Nat} (hm : 0 < m) (h : m.natAbs ≤ 2 ^ n) : (a.fmod m).natAbs < 2 ^ n := by
  have := fmod_lt (a := a) hm
  omega
theorem sem_take {B : Nat} {d : D} {s : Int} (h : Box B d) (hs : 0 < s) (hs2 : bits s < 9000) (hB : B ≤ 1000000) : ∃ (r : Int) (d' : D), fn_law_take [d, .int s] = .ok (.int r) [some d'] ∧ 0 ≤ r ∧ r < s ∧ Box (B + 1) d' := by
  obtain ⟨core, salt, cnt, rfl, hsalt, hcnt⟩ := h.ex
  have hs0 : s ≠ 0 := by omega
  have e : fn_law_take [.list [.int core, .int salt, .int cnt], .int s] = fn_law_take [.list [.int core, .int salt, .int cnt], .int s] := rfl
  by_cases hc : core > 0
  · have hd : s ≠ 0 ∧ bits s < 9000 := ⟨hs0, hs2⟩
    conv at e => rhs; simp (disch := assumption) only [fn_law_take, den_law_take, fnD, dSeq, dSet, dRet, dRetS, dRetN, dCall, dCallB, dCallO, dCons, dNil, dVar, dSlot, dC, dOp, dIf, dIfS, dNx, dTest, dNotT, dAndT, dOrT, dAnd, dOr, dNot, dNeg, dTup, dLst, dPar, dAsg, dSetIx, dApp, dLenS, dIxS, atL, res, resA, lift, wb, R.bind, R.bind_ok, R.bind_exc, tN, tNil', tCons', tTup', tSq', gSqL, gSqT, gAddI, gSubI, gMulI, gDivI, gModI, gAbs, gInt, gLen, gMax, gMin, gGt, gLt, gGe, gLe, List.map_cons, List.map_nil, List.length_cons, List.length_nil, List.replicate_succ, List.replicate_zero, List.cons_append, List.nil_append, List.append_nil, List.getElem?_cons_zero, List.getElem?_cons_succ, List.getElem?_nil, List.set_cons_zero, List.set_cons_succ, Option.join_some, Option.join_none, Option.bind_some, Option.bind_none, Nat.zero_add, Nat.reduceAdd, Nat.reduceSub, Nat.sub_zero, if_true, Bool.false_eq_true, if_false, ite_true, ite_false, gSet0, gSet1, gSet2, gIx0, gIx1, gIx2, gIxL0, gIxL1, gIxL2, gCmp, decide_true, decide_false, Bool.not_true, Bool.not_false, Option.map_some, liftL, iVal, iArg, decide_eq_true hc]
    exact ⟨_, _, e, (fmod_lt hs).1, (fmod_lt hs).2, ⟨_, _, cnt, rfl, hsalt, by omega⟩⟩
  · have p1 : (2 : Nat) ^ 21 ≤ 2 ^ 1000 := Nat.pow_le_pow_right (by decide) (by decide)
    have p2 : (2 : Nat) ^ 1001 = 2 * 2 ^ 1000 := Nat.pow_succ ..|>.trans (Nat.mul_comm _ _)
    have k1 : bits 48271 + bits ((cnt : Int) + 1) < 100000000 := by
      have a1 := bits_lit 16 (x := 48271) (by decide)
      have a2 := bits_lit 21 (x := (cnt : Int) + 1) (by omega)
      omega
    have s1 : (48271 * ((cnt : Int) + 1)).natAbs < 2 ^ 40 := by omega
    have p3 : (2 : Nat) ^ 40 ≤ 2 ^ 1000 := Nat.pow_le_pow_right (by decide) (by decide)
    have k2 : bits (salt + 48271 * ((cnt : Int) + 1)) + bits (39373 + ((cnt : Int) + 1)) < 100000000 := by
      have a1 := bits_lit 1001 (x := salt + 48271 * ((cnt : Int) + 1)) (by omega)
      have a2 := bits_lit 21 (x := 39373 + ((cnt : Int) + 1)) (by omega)
      omega
    have hm1 : (2147483647 : Int) ≠ 0 := by decide
    have hm2 : (2147483629 : Int) ≠ 0 := by decide
    have hm3 : (2147483587 : Int) ≠ 0 := by decide
    have hm4 : (40009 : Int) ≠ 0 := by decide
    have hd1 : (1000003 : Int) ≠ 0 ∧ bits 1000003 < 9000 := ⟨by decide, by have := bits_lit 21 (x := 1000003) (by decide); omega⟩
    have hd2 : (64 : Int) ≠ 0 ∧ bits 64 < 9000 := ⟨by decide, by have := bits_lit 21 (x := 64) (by decide); omega⟩
    have o1 := fmod_small (a := (salt + 48271 * ((cnt : Int) + 1)) * (39373 + ((cnt : Int) + 1))) (m := 2147483647) (n := 31) (by decide) (by decide)
    generalize ho : ((salt + 48271 * ((cnt : Int) + 1)) * (39373 + ((cnt : Int) + 1))).fmod 2147483647 = once at o1
    have o2 := fmod_small (a := once) (m := 40009) (n := 16) (by decide) (by decide)
    have o3 : (salt.fdiv 1000003).natAbs ≤ 2 ^ 1000 := fdiv_small (by decide) hsalt
    have k3 : bits (once + ((cnt : Int) + 1) + salt.fdiv 1000003) + bits (once.fmod 40009 + 7) < 100000000 := by
      have p4 : (2 : Nat) ^ 33 ≤ 2 ^ 1000 := Nat.pow_le_pow_right (by decide) (by decide)
      have a1 := bits_lit 1001 (x := once + ((cnt : Int) + 1) + salt.fdiv 1000003) (by omega)
      have a2 := bits_lit 17 (x := once.fmod 40009 + 7) (by omega)
      omega
    have k4 : ∀ x : Int, bits (x.fmod 2147483629) + bits 48271 < 100000000 := fun x => by
      have a1 := bits_le (fmod_small (a := x) (m := 2147483629) (n := 31) (by decide) (by decide))
      have a2 := bits_lit 16 (x := 48271) (by decide)
      omega
    have k4' := k4 ((once + ((cnt : Int) + 1) + salt.fdiv 1000003) * (once.fmod 40009 + 7))
    conv at e => rhs; simp (disch := assumption) only [fn_law_take, den_law_take, fnD, dSeq, dSet, dRet, dRetS, dRetN, dCall, dCallB, dCallO, dCons, dNil, dVar, dSlot, dC, dOp, dIf, dIfS, dNx, dTest, dNotT, dAndT, dOrT, dAnd, dOr, dNot, dNeg, dTup, dLst, dPar, dAsg, dSetIx, dApp, dLenS, dIxS, atL, res, resA, lift, wb, R.bind, R.bind_ok, R.bind_exc, tN, tNil', tCons', tTup', tSq', gSqL, gSqT, gAddI, gSubI, gMulI, gDivI, gModI, gAbs, gInt, gLen, gMax, gMin, gGt, gLt, gGe, gLe, List.map_cons, List.map_nil, List.length_cons, List.length_nil, List.replicate_succ, List.replicate_zero, List.cons_append, List.nil_append, List.append_nil, List.getElem?_cons_zero, List.getElem?_cons_succ, List.getElem?_nil, List.set_cons_zero, List.set_cons_succ, Option.join_some, Option.join_none, Option.bind_some, Option.bind_none, Nat.zero_add, Nat.reduceAdd, Nat.reduceSub, Nat.sub_zero, if_true, Bool.false_eq_true, if_false, ite_true, ite_false, gSet0, gSet1, gSet2, gIx0, gIx1, gIx2, gIxL0, gIxL1, gIxL2, gCmp, decide_true, decide_false, Bool.not_true, Bool.not_false, Option.map_some, liftL, iVal, iArg, decide_eq_false hc, ho]
    exact ⟨_, _, e, (fmod_lt hs).1, (fmod_lt hs).2, ⟨core, salt, cnt + 1, rfl, hsalt, by omega⟩⟩
end Dn


/-! Sl6: loops, comprehensions, the script's cells, boxes, picks, sameness. -/
namespace Dn
open PySem PySem.Spec PyProof.Rows L2
/-! ### loops -/
theorem forD_run {tg : Tg} {f : Den Fl} (I : Nat → Rho → Prop) : ∀ (ds : List D) (j : Nat) (ρ : Rho), (∀ i d ρ, ds[i]? = some d → I (j + i) ρ → ∃ r1 r2, tg d ρ = some r1 ∧ f r1 = .ok .nx r2 ∧ I (j + i + 1) r2) → I j ρ →
    ∃ r, forD tg f ds ρ = .ok .nx r ∧ I (j + ds.length) r
  | [], j, ρ, _, h => ⟨ρ, rfl, h⟩
  | d :: ds, j, ρ, hs, h => by
    obtain ⟨r1, r2, e1, e2, h2⟩ := hs 0 d ρ rfl h
    obtain ⟨r, e3, h3⟩ := forD_run (tg := tg) (f := f) I ds (j + 1) r2 (fun i d' ρ' hd hI => by
      have := hs (i + 1) d' ρ' hd (by rw [show j + (i + 1) = j + 1 + i by omega]; exact hI)
      rw [show j + (i + 1) = j + 1 + i by omega] at this
      exact this) h2
    refine ⟨r, ?_, by rw [List.length_cons, show j + (ds.length + 1) = j + 1 + ds.length by omega]; exact h3⟩
    show (match tg d ρ with
      | some r1 => (f r1).bind fun fl r2 => match fl with
        | .nx => forD tg f ds r2
        | .ret x => .ok (.ret x) r2
      | none => .stuck) = _
    rw [e1]
    show ((f r1).bind _) = _
    rw [e2]
    exact e3
theorem lcD_run {vs : List Nat} {tg : Tg} {te : Den D} (I : Nat → Rho → Prop) (P : Nat → D → Prop) : ∀ (ds : List D) (j : Nat) (acc : List D) (ρ : Rho),
    (∀ i d ρ, ds[i]? = some d → I (j + i) ρ → ∃ r1 y r3, tg d (wipeR ρ vs) = some r1 ∧ te r1 = .ok y r3 ∧ P (j + i) y ∧ I (j + i + 1) r3) → acc.length + ds.length ≤ lim → I j ρ →
    ∃ ys r, lcD vs tg dYes te ds acc ρ = .ok (acc ++ ys) r ∧ ys.length = ds.length ∧ (∀ i y, ys[i]? = some y → P (j + i) y) ∧ I (j + ds.length) r
  | [], j, acc, ρ, _, _, h => ⟨[], ρ, (by rw [List.append_nil] <;> rfl), rfl, (fun i y e => by simp at e), h⟩
  | d :: ds, j, acc, ρ, hs, hl, h => by
    obtain ⟨r1, y, r3, e1, e2, hp, h2⟩ := hs 0 d ρ rfl h
    rw [List.length_cons] at hl
    obtain ⟨ys, r, e3, h3, h4, h5⟩ := lcD_run (vs := vs) (tg := tg) (te := te) I P ds (j + 1) (acc ++ [y]) r3 (fun i d' ρ' hd hI => by
      have := hs (i + 1) d' ρ' hd (by rw [show j + (i + 1) = j + 1 + i by omega]; exact hI)
      rw [show j + (i + 1) = j + 1 + i by omega] at this
      exact this) (by rw [List.length_append]; simp; omega) h2
    refine ⟨y :: ys, r, ?_, by rw [List.length_cons, List.length_cons, h3], ?_, by rw [List.length_cons, show j + (ds.length + 1) = j + 1 + ds.length by omega]; exact h5⟩
    · have e4 : lcD vs tg dYes te (d :: ds) acc ρ = (match tg d (wipeR ρ vs) with
        | some r1 => match dYes r1 with
          | .ok b r2 => if b = true then match te r2 with
            | .ok y r3 => if acc.length < lim then lcD vs tg dYes te ds (acc ++ [y]) r3 else .stuck
            | _ => .stuck
            else lcD vs tg dYes te ds acc r2
          | _ => .stuck
        | none => .stuck) := rfl
      rw [e4, e1]
      show (if true = true then match te r1 with
            | .ok y r3 => if acc.length < lim then lcD vs tg dYes te ds (acc ++ [y]) r3 else .stuck
            | _ => .stuck
            else lcD vs tg dYes te ds acc r1) = _
      rw [if_pos rfl, e2]
      show (if acc.length < lim then lcD vs tg dYes te ds (acc ++ [y]) r3 else .stuck) = _
      rw [if_pos (by omega), e3, List.append_assoc]
      rfl
    · intro i z hz
      cases i with
      | zero => cases hz; exact hp
      | succ i =>
        have := h4 i z hz
        rw [show j + (i + 1) = j + 1 + i by omega]
        exact this
theorem rangeD_len {lo : Int} {n : Nat} : (rangeD lo n).length = n := by simp [rangeD]
theorem rangeD_at {lo : Int} {n i : Nat} {d : D} (h : (rangeD lo n)[i]? = some d) : d = .int (lo + (i : Nat)) ∧ i < n := by
  unfold rangeD at h
  rw [List.getElem?_map] at h
  by_cases hi : i < n
  · rw [List.getElem?_range hi] at h
    cases h
    exact ⟨rfl, hi⟩
  · rw [List.getElem?_eq_none (by simp; omega)] at h
    cases h
theorem gRange1_n {n : Nat} (h : n ≤ lim) : gRange1 [.int (n : Int)] = some (rangeD 0 n) := by
  show (if (n : Int).natAbs ≤ lim then some (rangeD 0 (n : Int).toNat) else none) = _
  rw [Int.natAbs_natCast, if_pos h]
  rfl
theorem bls_true : ∀ ys : List D, (∀ y ∈ ys, y = .bool true) → blsOf ys = some (List.replicate ys.length true)
  | [], _ => rfl
  | y :: ys, h => by
    have := h y List.mem_cons_self
    subst this
    show (blsOf ys).map (true :: ·) = _
    rw [bls_true ys fun y hy => h y (List.mem_cons_of_mem _ hy)]
    rfl
theorem all_true {ys : List D} (h : ∀ (i : Nat) y, ys[i]? = some y → y = .bool true) : gAll [.list ys] = some (.bool true) := by
  show (blsOf ys).map _ = _
  rw [bls_true ys fun y hy => by
    obtain ⟨i, hi, e⟩ := List.mem_iff_getElem.mp hy
    exact h i y (by rw [List.getElem?_eq_getElem hi, e])]
  simp
/-! ### the script, a box -/
theorem bits_of_int {z : Int} {n : Nat} (h : Builtin.Int.intBits z ≤ n) : bits z ≤ n := by
  unfold Builtin.Int.intBits at h
  by_cases h0 : z = 0
  · subst h0
    exact Nat.zero_le _
  · rw [if_neg (by simpa using h0)] at h
    unfold bits
    omega
theorem sem_cell {ns : List Int} (hb : ∀ z ∈ ns, Builtin.Int.intBits z ≤ 1048576) (k : Nat) : ∃ z : Int, fn_law_cell_at [scriptD ns, .int (k : Int)] = .ok (.int z) [] ∧ bits z ≤ 1048576 := by
  have e : fn_law_cell_at [scriptD ns, .int (k : Int)] = fn_law_cell_at [scriptD ns, .int (k : Int)] := rfl
  have hlen : (ns.map PyData.int).length = ns.length := List.length_map _
  by_cases h : k < ns.length
  · have hg : gIx (.list (ns.map PyData.int)) (.int (k : Int)) = some (.int ns[k]) := by
      show atI _ (k : Int) = _
      rw [atI_nat, List.getElem?_map, List.getElem?_eq_getElem h]
      rfl
    conv at e => rhs; simp (disch := assumption) only [fn_law_cell_at, den_law_cell_at, scriptD, fnD, dSeq, dSet, dRet, dRetS, dRetN, dCall, dCallB, dCallO, dCons, dNil, dVar, dSlot, dC, dOp, dIf, dIfS, dNx, dTest, dNotT, dAndT, dOrT, dAnd, dOr, dNot, dNeg, dTup, dLst, dPar, dAsg, dSetIx, dApp, dLenS, dIxS, atL, res, resA, lift, wb, R.bind, R.bind_ok, R.bind_exc, tN, tNil', tCons', tTup', tSq', gSqL, gSqT, gAddI, gSubI, gMulI, gDivI, gModI, gAbs, gInt, gLen, gMax, gMin, gGt, gLt, gGe, gLe, List.map_cons, List.map_nil, List.length_cons, List.length_nil, List.replicate_succ, List.replicate_zero, List.cons_append, List.nil_append, List.append_nil, List.getElem?_cons_zero, List.getElem?_cons_succ, List.getElem?_nil, List.set_cons_zero, List.set_cons_succ, Option.join_some, Option.join_none, Option.bind_some, Option.bind_none, Nat.zero_add, Nat.reduceAdd, Nat.reduceSub, Nat.sub_zero, if_true, Bool.false_eq_true, if_false, ite_true, ite_false, gSet0, gSet1, gSet2, gIx0, gIx1, gIx2, gIxL0, gIxL1, gIxL2, gCmp, decide_true, decide_false, Bool.not_true, Bool.not_false, Option.map_some, liftL, iVal, iArg, hlen, decide_eq_true (show (k : Int) < (ns.length : Int) by omega), hg]
    exact ⟨_, e, bits_of_int (hb _ (List.getElem_mem h))⟩
  · conv at e => rhs; simp (disch := assumption) only [fn_law_cell_at, den_law_cell_at, scriptD, fnD, dSeq, dSet, dRet, dRetS, dRetN, dCall, dCallB, dCallO, dCons, dNil, dVar, dSlot, dC, dOp, dIf, dIfS, dNx, dTest, dNotT, dAndT, dOrT, dAnd, dOr, dNot, dNeg, dTup, dLst, dPar, dAsg, dSetIx, dApp, dLenS, dIxS, atL, res, resA, lift, wb, R.bind, R.bind_ok, R.bind_exc, tN, tNil', tCons', tTup', tSq', gSqL, gSqT, gAddI, gSubI, gMulI, gDivI, gModI, gAbs, gInt, gLen, gMax, gMin, gGt, gLt, gGe, gLe, List.map_cons, List.map_nil, List.length_cons, List.length_nil, List.replicate_succ, List.replicate_zero, List.cons_append, List.nil_append, List.append_nil, List.getElem?_cons_zero, List.getElem?_cons_succ, List.getElem?_nil, List.set_cons_zero, List.set_cons_succ, Option.join_some, Option.join_none, Option.bind_some, Option.bind_none, Nat.zero_add, Nat.reduceAdd, Nat.reduceSub, Nat.sub_zero, if_true, Bool.false_eq_true, if_false, ite_true, ite_false, gSet0, gSet1, gSet2, gIx0, gIx1, gIx2, gIxL0, gIxL1, gIxL2, gCmp, decide_true, decide_false, Bool.not_true, Bool.not_false, Option.map_some, liftL, iVal, iArg, hlen, decide_eq_false (show ¬ (k : Int) < (ns.length : Int) by omega)]
    exact ⟨_, e, Nat.zero_le _⟩
theorem abs_bits (z : Int) : bits ((z.natAbs : Nat) : Int) = bits z := by unfold bits; rw [Int.natAbs_natCast]
theorem sem_box {ns : List Int} (hb : ∀ z ∈ ns, Builtin.Int.intBits z ≤ 1048576) (k : Nat) (hk : k ≤ 1000) : ∃ d : D, fn_law_box [scriptD ns, .int (k : Int)] = .ok d [] ∧ Box 0 d := by
  obtain ⟨z, e0, hz⟩ := sem_cell hb k
  have e : fn_law_box [scriptD ns, .int (k : Int)] = fn_law_box [scriptD ns, .int (k : Int)] := rfl
  have g1 : gPow (.int 10) (.int 18) = some (.int (10 ^ 18)) := rfl
  have k1 : ∀ b : Bool, bits (z.natAbs : Int) + bits (if b = true then 1 else 0) < 100000000 := fun b => by
    have a1 := abs_bits z
    have a2 : bits (if b = true then 1 else 0) ≤ 1 := by cases b <;> decide
    omega
  have k1' := k1 (decide ((z.natAbs : Int) ≥ 10 ^ 18))
  have k2 : bits 39373 + bits (k : Int) < 100000000 := by
    have a1 := bits_lit 16 (x := 39373) (by decide)
    have a2 := bits_lit 16 (x := (k : Int)) (by omega)
    omega
  have m1 : (2305843009213693951 : Int) ≠ 0 := by decide
  have o1 := fmod_lt (a := z) (s := 2305843009213693951) (by decide)
  have p1 : (2 : Nat) ^ 62 ≤ 2 ^ 1000 := Nat.pow_le_pow_right (by decide) (by decide)
  conv at e => rhs; simp (disch := assumption) only [fn_law_box, den_law_box, fnD, dSeq, dSet, dRet, dRetS, dRetN, dCall, dCallB, dCallO, dCons, dNil, dVar, dSlot, dC, dOp, dIf, dIfS, dNx, dTest, dNotT, dAndT, dOrT, dAnd, dOr, dNot, dNeg, dTup, dLst, dPar, dAsg, dSetIx, dApp, dLenS, dIxS, atL, res, resA, lift, wb, R.bind, R.bind_ok, R.bind_exc, tN, tNil', tCons', tTup', tSq', gSqL, gSqT, gAddI, gSubI, gMulI, gDivI, gModI, gAbs, gInt, gLen, gMax, gMin, gGt, gLt, gGe, gLe, List.map_cons, List.map_nil, List.length_cons, List.length_nil, List.replicate_succ, List.replicate_zero, List.cons_append, List.nil_append, List.append_nil, List.getElem?_cons_zero, List.getElem?_cons_succ, List.getElem?_nil, List.set_cons_zero, List.set_cons_succ, Option.join_some, Option.join_none, Option.bind_some, Option.bind_none, Nat.zero_add, Nat.reduceAdd, Nat.reduceSub, Nat.sub_zero, if_true, Bool.false_eq_true, if_false, ite_true, ite_false, gSet0, gSet1, gSet2, gIx0, gIx1, gIx2, gIxL0, gIxL1, gIxL2, gCmp, decide_true, decide_false, Bool.not_true, Bool.not_false, Option.map_some, liftL, iVal, iArg, e0, abs_nat, g1]
  exact ⟨_, e, ⟨_, _, 0, rfl, by omega, Nat.le_refl _⟩⟩
/-! ### picks -/
theorem sem_of {B : Nat} {d : D} {l : List D} (h : Box B d) (h0 : 0 < l.length) (h1 : l.length ≤ 1000000) (hB : B ≤ 1000000) : ∃ x ∈ l, ∃ d' : D, fn_law_of [d, .list l] = .ok x [some d'] ∧ Box (B + 1) d' := by
  obtain ⟨r, d', e0, r0, r1, hb⟩ := sem_take (s := (l.length : Int)) h (by omega) (by have := bits_lit 20 (x := (l.length : Int)) (by omega); omega) hB
  have e : fn_law_of [d, .list l] = fn_law_of [d, .list l] := rfl
  have hr : r.toNat < l.length := by omega
  have hg : gIx (.list l) (.int r) = some l[r.toNat] := by
    show atI l r = _
    have hn := atI_nat l r.toNat
    rw [Int.toNat_of_nonneg r0, List.getElem?_eq_getElem hr] at hn
    exact hn
  conv at e => rhs; simp (disch := assumption) only [fn_law_of, den_law_of, fnD, dSeq, dSet, dRet, dRetS, dRetN, dCall, dCallB, dCallO, dCons, dNil, dVar, dSlot, dC, dOp, dIf, dIfS, dNx, dTest, dNotT, dAndT, dOrT, dAnd, dOr, dNot, dNeg, dTup, dLst, dPar, dAsg, dSetIx, dApp, dLenS, dIxS, atL, res, resA, lift, wb, R.bind, R.bind_ok, R.bind_exc, tN, tNil', tCons', tTup', tSq', gSqL, gSqT, gAddI, gSubI, gMulI, gDivI, gModI, gAbs, gInt, gLen, gMax, gMin, gGt, gLt, gGe, gLe, List.map_cons, List.map_nil, List.length_cons, List.length_nil, List.replicate_succ, List.replicate_zero, List.cons_append, List.nil_append, List.append_nil, List.getElem?_cons_zero, List.getElem?_cons_succ, List.getElem?_nil, List.set_cons_zero, List.set_cons_succ, Option.join_some, Option.join_none, Option.bind_some, Option.bind_none, Nat.zero_add, Nat.reduceAdd, Nat.reduceSub, Nat.sub_zero, if_true, Bool.false_eq_true, if_false, ite_true, ite_false, gSet0, gSet1, gSet2, gIx0, gIx1, gIx2, gIxL0, gIxL1, gIxL2, gCmp, decide_true, decide_false, Bool.not_true, Bool.not_false, Option.map_some, liftL, iVal, iArg, e0, hg]
  exact ⟨_, List.getElem_mem hr, d', e, hb⟩
end Dn


/-! Sl7: sameness of a value with itself; the law's outer loop. -/
namespace Dn
open PySem PySem.Spec PyProof.Rows L2
inductive Sam : Nat → D → Prop
  | int {n : Nat} (i : Int) : Sam (n + 1) (.int i)
  | bl {n : Nat} (b : Bool) : Sam (n + 1) (.bool b)
  | non {n : Nat} : Sam (n + 1) .none
  | str {n : Nat} (x : Str) (h : SeqAt.shaped (.str x) = true) : Sam (n + 1) (.str x)
  | lst {n : Nat} {ds : List D} (h : ∀ d ∈ ds, Sam n d) (hl : ds.length ≤ lim) : Sam (n + 1) (.list ds)
  | tup {n : Nat} {ds : List D} (h : ∀ d ∈ ds, Sam n d) (hl : ds.length ≤ lim) : Sam (n + 1) (.tuple ds)
theorem eq_int (i : Int) : gEq (.int i) (.int i) = some (.bool true) := by
  show (if SeqAt.shaped (.int i) && SeqAt.shaped (.int i) then some (PyData.bool (PyData.eqv (.int i) (.int i))) else none) = _
  rw [if_pos (by rfl), PyData.eqv]
  simp
theorem eq_ints (i j : Int) : gEq (.int i) (.int j) = some (.bool (decide (i = j))) := by
  show (if SeqAt.shaped (.int i) && SeqAt.shaped (.int j) then some (PyData.bool (PyData.eqv (.int i) (.int j))) else none) = _
  rw [if_pos (by rfl), PyData.eqv]
  rfl
theorem eq_bl (i j : Bool) : gEq (.bool i) (.bool j) = some (.bool (i == j)) := by
  show (if SeqAt.shaped (.bool i) && SeqAt.shaped (.bool j) then some (PyData.bool (PyData.eqv (.bool i) (.bool j))) else none) = _
  rw [if_pos (by rfl), PyData.eqv]
theorem ne_bl (i j : Bool) : gNe (.bool i) (.bool j) = some (.bool (!(i == j))) := by
  show (if SeqAt.shaped (.bool i) && SeqAt.shaped (.bool j) then some (PyData.bool (!PyData.eqv (.bool i) (.bool j))) else none) = _
  rw [if_pos (by rfl), PyData.eqv]
theorem eq_self {d : D} (h : SeqAt.shaped d = true) : gEq d d = some (.bool true) := by
  show (if SeqAt.shaped d && SeqAt.shaped d then some (PyData.bool (PyData.eqv d d)) else none) = _
  rw [if_pos (by rw [h] <;> rfl), SeqAt.eqv_refl d (SeqAt.canLay_of_shaped h)]
theorem zip_self : ∀ (ds : List D) (i : Nat) (x : D), (List.zipWith (fun x y => PyData.tuple [x, y]) ds ds)[i]? = some x → ∃ d ∈ ds, x = .tuple [d, d]
  | [], i, x, h => by simp at h
  | d :: ds, 0, x, h => by
    cases h
    exact ⟨d, List.mem_cons_self, rfl⟩
  | d :: ds, i + 1, x, h => by
    obtain ⟨d', h1, h2⟩ := zip_self ds i x h
    exact ⟨d', List.mem_cons_of_mem _ h1, h2⟩
theorem same_lc {f : Fn} {ds : List D} (d : D) (hz : gZipK [d, d] = some (List.zipWith (fun x y => PyData.tuple [x, y]) ds ds)) (h : ∀ x ∈ ds, f [x, x] = .ok (.bool true) []) (hl : ds.length ≤ lim) :
    dCallB [none] gAll (dCons (dLc [3, 4] (iZipM (dCons (dVar 0) (dCons (dVar 1) dNil))) (tSq' 2 (tCons' (tN 3) (tCons' (tN 4) tNil'))) dYes (dCall [] [none, none] [] [] f (dCons (dVar 3) (dCons (dVar 4) dNil)))) dNil) [some d, some d, none, none, none] =
      .ok (.bool true) [some d, some d, none, none, none] := by
  obtain ⟨ys, r, e, h1, h2, h3⟩ := lcD_run (vs := [3, 4]) (tg := tSq' 2 (tCons' (tN 3) (tCons' (tN 4) tNil'))) (te := dCall [] [none, none] [] [] f (dCons (dVar 3) (dCons (dVar 4) dNil)))
    (fun _ r => ∃ u v, r = [some d, some d, none, u, v]) (fun _ y => y = .bool true) (List.zipWith (fun x y => PyData.tuple [x, y]) ds ds) 0 [] [some d, some d, none, none, none] (fun i x ρ hx hI => by
      obtain ⟨u, v, rfl⟩ := hI
      obtain ⟨z, hz, rfl⟩ := zip_self ds i x hx
      refine ⟨[some d, some d, none, some z, some z], .bool true, [some d, some d, none, some z, some z], ?_, ?_, rfl, _, _, rfl⟩
      · rfl
      · simp only [fnD, dSeq, dSet, dRet, dRetS, dRetN, dCall, dCallB, dCallO, dCons, dNil, dVar, dSlot, dC, dOp, dIf, dIfS, dNx, dTest, dNotT, dAndT, dOrT, dAnd, dOr, dNot, dNeg, dTup, dLst, dPar, dAsg, dSetIx, dApp, dLenS, dIxS, atL, res, resA, lift, wb, R.bind, R.bind_ok, R.bind_exc, tN, tNil', tCons', tTup', tSq', gSqL, gSqT, gAddI, gSubI, gMulI, gDivI, gModI, gAbs, gInt, gLen, gMax, gMin, gGt, gLt, gGe, gLe, List.map_cons, List.map_nil, List.length_cons, List.length_nil, List.replicate_succ, List.replicate_zero, List.cons_append, List.nil_append, List.append_nil, List.getElem?_cons_zero, List.getElem?_cons_succ, List.getElem?_nil, List.set_cons_zero, List.set_cons_succ, Option.join_some, Option.join_none, Option.bind_some, Option.bind_none, Nat.zero_add, Nat.reduceAdd, Nat.reduceSub, Nat.sub_zero, if_true, Bool.false_eq_true, if_false, ite_true, ite_false, gSet0, gSet1, gSet2, gIx0, gIx1, gIx2, gIxL0, gIxL1, gIxL2, gCmp, decide_true, decide_false, Bool.not_true, Bool.not_false, Option.map_some, liftL, iVal, iArg, h z hz]) (by simp; omega) ⟨_, _, rfl⟩
  obtain ⟨u, v, rfl⟩ := h3
  have e2 : gAll [.list ys] = some (.bool true) := all_true fun i y hy => h2 i y hy
  simp only [fnD, dSeq, dSet, dRet, dRetS, dRetN, dCall, dCallB, dCallO, dCons, dNil, dVar, dSlot, dC, dOp, dIf, dIfS, dNx, dTest, dNotT, dAndT, dOrT, dAnd, dOr, dNot, dNeg, dTup, dLst, dPar, dAsg, dSetIx, dApp, dLenS, dIxS, atL, res, resA, lift, wb, R.bind, R.bind_ok, R.bind_exc, tN, tNil', tCons', tTup', tSq', gSqL, gSqT, gAddI, gSubI, gMulI, gDivI, gModI, gAbs, gInt, gLen, gMax, gMin, gGt, gLt, gGe, gLe, List.map_cons, List.map_nil, List.length_cons, List.length_nil, List.replicate_succ, List.replicate_zero, List.cons_append, List.nil_append, List.append_nil, List.getElem?_cons_zero, List.getElem?_cons_succ, List.getElem?_nil, List.set_cons_zero, List.set_cons_succ, Option.join_some, Option.join_none, Option.bind_some, Option.bind_none, Nat.zero_add, Nat.reduceAdd, Nat.reduceSub, Nat.sub_zero, if_true, Bool.false_eq_true, if_false, ite_true, ite_false, gSet0, gSet1, gSet2, gIx0, gIx1, gIx2, gIxL0, gIxL1, gIxL2, gCmp, decide_true, decide_false, Bool.not_true, Bool.not_false, Option.map_some, liftL, iVal, iArg, dLc, hz, e, e2, backR]
theorem sem_same {n : Nat} : ∀ {m : Nat} {d : D}, Sam n d → n ≤ m → fn_law_same m [d, d] = .ok (.bool true) [] := by
  induction n with
  | zero => intro m d h; cases h
  | succ n ih =>
    intro m d h hm
    obtain ⟨m, rfl⟩ : ∃ k, m = k + 1 := ⟨m - 1, by omega⟩
    show fnD 5 [] (den_law_same (fn_law_same m)) [d, d] = _
    cases h with
    | int i => simp (disch := assumption) only [den_law_same, fnD, dSeq, dSet, dRet, dRetS, dRetN, dCall, dCallB, dCallO, dCons, dNil, dVar, dSlot, dC, dOp, dIf, dIfS, dNx, dTest, dNotT, dAndT, dOrT, dAnd, dOr, dNot, dNeg, dTup, dLst, dPar, dAsg, dSetIx, dApp, dLenS, dIxS, atL, res, resA, lift, wb, R.bind, R.bind_ok, R.bind_exc, tN, tNil', tCons', tTup', tSq', gSqL, gSqT, gAddI, gSubI, gMulI, gDivI, gModI, gAbs, gInt, gLen, gMax, gMin, gGt, gLt, gGe, gLe, List.map_cons, List.map_nil, List.length_cons, List.length_nil, List.replicate_succ, List.replicate_zero, List.cons_append, List.nil_append, List.append_nil, List.getElem?_cons_zero, List.getElem?_cons_succ, List.getElem?_nil, List.set_cons_zero, List.set_cons_succ, Option.join_some, Option.join_none, Option.bind_some, Option.bind_none, Nat.zero_add, Nat.reduceAdd, Nat.reduceSub, Nat.sub_zero, if_true, Bool.false_eq_true, if_false, ite_true, ite_false, gSet0, gSet1, gSet2, gIx0, gIx1, gIx2, gIxL0, gIxL1, gIxL2, gCmp, decide_true, decide_false, Bool.not_true, Bool.not_false, Option.map_some, liftL, iVal, iArg, dIsi, dIsi2, tyN, isi, String.reduceBEq, Bool.false_and, Bool.and_false, Bool.or_false, Bool.false_or, Bool.true_or, Bool.or_true, gIs, isNonD, Bool.and_self, beq_self_eq_true, Bool.not_true, eq_int, ne_bl, eq_bl]
    | bl b => simp (disch := assumption) only [den_law_same, fnD, dSeq, dSet, dRet, dRetS, dRetN, dCall, dCallB, dCallO, dCons, dNil, dVar, dSlot, dC, dOp, dIf, dIfS, dNx, dTest, dNotT, dAndT, dOrT, dAnd, dOr, dNot, dNeg, dTup, dLst, dPar, dAsg, dSetIx, dApp, dLenS, dIxS, atL, res, resA, lift, wb, R.bind, R.bind_ok, R.bind_exc, tN, tNil', tCons', tTup', tSq', gSqL, gSqT, gAddI, gSubI, gMulI, gDivI, gModI, gAbs, gInt, gLen, gMax, gMin, gGt, gLt, gGe, gLe, List.map_cons, List.map_nil, List.length_cons, List.length_nil, List.replicate_succ, List.replicate_zero, List.cons_append, List.nil_append, List.append_nil, List.getElem?_cons_zero, List.getElem?_cons_succ, List.getElem?_nil, List.set_cons_zero, List.set_cons_succ, Option.join_some, Option.join_none, Option.bind_some, Option.bind_none, Nat.zero_add, Nat.reduceAdd, Nat.reduceSub, Nat.sub_zero, if_true, Bool.false_eq_true, if_false, ite_true, ite_false, gSet0, gSet1, gSet2, gIx0, gIx1, gIx2, gIxL0, gIxL1, gIxL2, gCmp, decide_true, decide_false, Bool.not_true, Bool.not_false, Option.map_some, liftL, iVal, iArg, dIsi, dIsi2, tyN, isi, String.reduceBEq, Bool.false_and, Bool.and_false, Bool.or_false, Bool.false_or, Bool.true_or, Bool.or_true, gIs, isNonD, Bool.and_self, beq_self_eq_true, Bool.not_true, eq_int, ne_bl, eq_bl]
    | non =>
      have e := eq_self (d := .none) rfl
      simp (disch := assumption) only [den_law_same, e, fnD, dSeq, dSet, dRet, dRetS, dRetN, dCall, dCallB, dCallO, dCons, dNil, dVar, dSlot, dC, dOp, dIf, dIfS, dNx, dTest, dNotT, dAndT, dOrT, dAnd, dOr, dNot, dNeg, dTup, dLst, dPar, dAsg, dSetIx, dApp, dLenS, dIxS, atL, res, resA, lift, wb, R.bind, R.bind_ok, R.bind_exc, tN, tNil', tCons', tTup', tSq', gSqL, gSqT, gAddI, gSubI, gMulI, gDivI, gModI, gAbs, gInt, gLen, gMax, gMin, gGt, gLt, gGe, gLe, List.map_cons, List.map_nil, List.length_cons, List.length_nil, List.replicate_succ, List.replicate_zero, List.cons_append, List.nil_append, List.append_nil, List.getElem?_cons_zero, List.getElem?_cons_succ, List.getElem?_nil, List.set_cons_zero, List.set_cons_succ, Option.join_some, Option.join_none, Option.bind_some, Option.bind_none, Nat.zero_add, Nat.reduceAdd, Nat.reduceSub, Nat.sub_zero, if_true, Bool.false_eq_true, if_false, ite_true, ite_false, gSet0, gSet1, gSet2, gIx0, gIx1, gIx2, gIxL0, gIxL1, gIxL2, gCmp, decide_true, decide_false, Bool.not_true, Bool.not_false, Option.map_some, liftL, iVal, iArg, dIsi, dIsi2, tyN, isi, String.reduceBEq, Bool.false_and, Bool.and_false, Bool.or_false, Bool.false_or, Bool.true_or, Bool.or_true, gIs, isNonD, Bool.and_self, beq_self_eq_true, Bool.not_true, eq_int, ne_bl, eq_bl]
    | str x h =>
      have e := eq_self h
      simp (disch := assumption) only [den_law_same, e, fnD, dSeq, dSet, dRet, dRetS, dRetN, dCall, dCallB, dCallO, dCons, dNil, dVar, dSlot, dC, dOp, dIf, dIfS, dNx, dTest, dNotT, dAndT, dOrT, dAnd, dOr, dNot, dNeg, dTup, dLst, dPar, dAsg, dSetIx, dApp, dLenS, dIxS, atL, res, resA, lift, wb, R.bind, R.bind_ok, R.bind_exc, tN, tNil', tCons', tTup', tSq', gSqL, gSqT, gAddI, gSubI, gMulI, gDivI, gModI, gAbs, gInt, gLen, gMax, gMin, gGt, gLt, gGe, gLe, List.map_cons, List.map_nil, List.length_cons, List.length_nil, List.replicate_succ, List.replicate_zero, List.cons_append, List.nil_append, List.append_nil, List.getElem?_cons_zero, List.getElem?_cons_succ, List.getElem?_nil, List.set_cons_zero, List.set_cons_succ, Option.join_some, Option.join_none, Option.bind_some, Option.bind_none, Nat.zero_add, Nat.reduceAdd, Nat.reduceSub, Nat.sub_zero, if_true, Bool.false_eq_true, if_false, ite_true, ite_false, gSet0, gSet1, gSet2, gIx0, gIx1, gIx2, gIxL0, gIxL1, gIxL2, gCmp, decide_true, decide_false, Bool.not_true, Bool.not_false, Option.map_some, liftL, iVal, iArg, dIsi, dIsi2, tyN, isi, String.reduceBEq, Bool.false_and, Bool.and_false, Bool.or_false, Bool.false_or, Bool.true_or, Bool.or_true, gIs, isNonD, Bool.and_self, beq_self_eq_true, Bool.not_true, eq_int, ne_bl, eq_bl]
    | @lst _ ds h hl =>
      have hA := same_lc (f := fn_law_same m) (ds := ds) (.list ds) rfl (fun x hx => ih (h x hx) (by omega)) hl
      unfold den_law_same
      generalize (dCallB [none] gAll (dCons (dLc [3, 4] (iZipM (dCons (dVar 0) (dCons (dVar 1) dNil))) (tSq' 2 (tCons' (tN 3) (tCons' (tN 4) tNil'))) dYes (dCall [] [none, none] [] [] (fn_law_same m) (dCons (dVar 3) (dCons (dVar 4) dNil)))) dNil)) = A at hA ⊢
      simp (disch := assumption) only [hA, fnD, dSeq, dSet, dRet, dRetS, dRetN, dCall, dCallB, dCallO, dCons, dNil, dVar, dSlot, dC, dOp, dIf, dIfS, dNx, dTest, dNotT, dAndT, dOrT, dAnd, dOr, dNot, dNeg, dTup, dLst, dPar, dAsg, dSetIx, dApp, dLenS, dIxS, atL, res, resA, lift, wb, R.bind, R.bind_ok, R.bind_exc, tN, tNil', tCons', tTup', tSq', gSqL, gSqT, gAddI, gSubI, gMulI, gDivI, gModI, gAbs, gInt, gLen, gMax, gMin, gGt, gLt, gGe, gLe, List.map_cons, List.map_nil, List.length_cons, List.length_nil, List.replicate_succ, List.replicate_zero, List.cons_append, List.nil_append, List.append_nil, List.getElem?_cons_zero, List.getElem?_cons_succ, List.getElem?_nil, List.set_cons_zero, List.set_cons_succ, Option.join_some, Option.join_none, Option.bind_some, Option.bind_none, Nat.zero_add, Nat.reduceAdd, Nat.reduceSub, Nat.sub_zero, if_true, Bool.false_eq_true, if_false, ite_true, ite_false, gSet0, gSet1, gSet2, gIx0, gIx1, gIx2, gIxL0, gIxL1, gIxL2, gCmp, decide_true, decide_false, Bool.not_true, Bool.not_false, Option.map_some, liftL, iVal, iArg, dIsi, dIsi2, tyN, isi, String.reduceBEq, Bool.false_and, Bool.and_false, Bool.or_false, Bool.false_or, Bool.true_or, Bool.or_true, gIs, isNonD, Bool.and_self, beq_self_eq_true, Bool.not_true, eq_int, ne_bl, eq_bl]
    | @tup _ ds h hl =>
      have hA := same_lc (f := fn_law_same m) (ds := ds) (.tuple ds) rfl (fun x hx => ih (h x hx) (by omega)) hl
      unfold den_law_same
      generalize (dCallB [none] gAll (dCons (dLc [3, 4] (iZipM (dCons (dVar 0) (dCons (dVar 1) dNil))) (tSq' 2 (tCons' (tN 3) (tCons' (tN 4) tNil'))) dYes (dCall [] [none, none] [] [] (fn_law_same m) (dCons (dVar 3) (dCons (dVar 4) dNil)))) dNil)) = A at hA ⊢
      simp (disch := assumption) only [hA, fnD, dSeq, dSet, dRet, dRetS, dRetN, dCall, dCallB, dCallO, dCons, dNil, dVar, dSlot, dC, dOp, dIf, dIfS, dNx, dTest, dNotT, dAndT, dOrT, dAnd, dOr, dNot, dNeg, dTup, dLst, dPar, dAsg, dSetIx, dApp, dLenS, dIxS, atL, res, resA, lift, wb, R.bind, R.bind_ok, R.bind_exc, tN, tNil', tCons', tTup', tSq', gSqL, gSqT, gAddI, gSubI, gMulI, gDivI, gModI, gAbs, gInt, gLen, gMax, gMin, gGt, gLt, gGe, gLe, List.map_cons, List.map_nil, List.length_cons, List.length_nil, List.replicate_succ, List.replicate_zero, List.cons_append, List.nil_append, List.append_nil, List.getElem?_cons_zero, List.getElem?_cons_succ, List.getElem?_nil, List.set_cons_zero, List.set_cons_succ, Option.join_some, Option.join_none, Option.bind_some, Option.bind_none, Nat.zero_add, Nat.reduceAdd, Nat.reduceSub, Nat.sub_zero, if_true, Bool.false_eq_true, if_false, ite_true, ite_false, gSet0, gSet1, gSet2, gIx0, gIx1, gIx2, gIxL0, gIxL1, gIxL2, gCmp, decide_true, decide_false, Bool.not_true, Bool.not_false, Option.map_some, liftL, iVal, iArg, dIsi, dIsi2, tyN, isi, String.reduceBEq, Bool.false_and, Bool.and_false, Bool.or_false, Bool.false_or, Bool.true_or, Bool.or_true, gIs, isNonD, Bool.and_self, beq_self_eq_true, Bool.not_true, eq_int, ne_bl, eq_bl]
/-! ### the law's outer loop -/
end Dn


namespace Dn
/-! the denotations -/
def den_over : Den Fl := (dRet (dCall [] [none, none] [] [] fn_frac (dCons (dOp none none gMul (dOp none none gIx (dVar 0) (dC (.int 0))) (dOp none none gIx (dVar 1) (dC (.int 1)))) (dCons (dOp none none gMul (dOp none none gIx (dVar 0) (dC (.int 1))) (dOp none none gIx (dVar 1) (dC (.int 0)))) dNil))))
def fn_over : Fn := fnD 2 [] den_over
def den_law_pane_v2 : Den Fl := (dSeq (dSet 1 (dOp none none gAdd (dC (.int 2)) (dCall [0] [(some 0), none] [0] [] fn_law_take (dCons (dSlot 0) (dCons (dOp none none gIx (dLst (dCons (dC (.int 3)) (dCons (dC (.int 8)) (dCons (dC (.int 59)) dNil)))) (dCall [0] [(some 0), none] [0] [] fn_law_take (dCons (dSlot 0) (dCons (dC (.int 3)) dNil)))) dNil))))) (dSeq (dSet 2 (dCall [] [none, none] [] [] fn_law_frac (dCons (dOp none none gAdd (dOp none none gSub (dCall [0] [(some 0), none] [0] [] fn_law_take (dCons (dSlot 0) (dCons (dOp none none gSub (dOp none none gMul (dC (.int 2)) (dVar 1)) (dC (.int 1))) dNil))) (dVar 1)) (dC (.int 1))) (dCons (dVar 1) dNil)))) (dRet (dCall [0] [(some 0), none] [0] [] fn_law_of (dCons (dSlot 0) (dCons (dLst (dCons (dVar 2) (dCons (dVar 2) (dCons (dVar 2) (dCons (dTup (dCons (dC (.int 1)) (dCons (dC (.int 2)) dNil))) (dCons (dTup (dCons (dNeg (dC (.int 1))) (dCons (dC (.int 2)) dNil))) (dCons (dTup (dCons (dC (.int 1)) (dCons (dC (.int 3)) dNil))) (dCons (dTup (dCons (dC (.int 0)) (dCons (dC (.int 1)) dNil))) (dCons (dTup (dCons (dOp none none gSub (dC (.int 1)) (dVar 1)) (dCons (dVar 1) dNil))) dNil))))))))) dNil))))))
def fn_law_pane_v2 : Fn := fnD 3 [0] den_law_pane_v2
end Dn


/-! Sl8: sums, rooms, single panes. -/
namespace Dn
open PySem PySem.Spec PyProof.Rows L2
theorem gIxLast {xs : List D} {a : D} : gIx (.list (xs ++ [a])) (.int (-1)) = some a := by
  show atI (xs ++ [a]) (-1) = _
  unfold atI ixN
  rw [if_neg (by decide), if_pos (by rw [List.length_append]; simp; omega)]
  show (xs ++ [a])[(-1 + ((xs ++ [a]).length : Int)).toNat]? = _
  have : (-1 + ((xs ++ [a]).length : Int)).toNat = xs.length := by rw [List.length_append]; simp; omega
  rw [this]
  simp
theorem fr_mk {a b : Int} (hb : 0 < b) (hc : b.gcd a = 1) : PyData.tuple [.int a, .int b] = fr ((a : Rat) / (b : Rat)) := by
  unfold fr
  rw [q_num, q_den (by omega), hc, Int.sign_eq_one_of_pos hb]
  have : ((b.natAbs / 1 : Nat) : Int) = b := by simp; omega
  rw [this]
  simp
theorem gcd_pred (u : Int) : u.gcd (1 - u) = 1 := by
  have h1 : ((u.gcd (1 - u) : Nat) : Int) ∣ u := Int.gcd_dvd_left _ _
  have h2 : ((u.gcd (1 - u) : Nat) : Int) ∣ (1 - u) := Int.gcd_dvd_right _ _
  have h3 : ((u.gcd (1 - u) : Nat) : Int) ∣ 1 := by
    have := Int.dvd_add h1 h2
    rw [show u + (1 - u) = 1 by omega] at this
    exact this
  have := Int.eq_one_of_dvd_one (by omega) h3
  omega
theorem div_lt_one {t u : Int} (hu : 0 < u) (h : t < u) : (t : Rat) / (u : Rat) < 1 := by
  have h1 : (0 : Rat) < (u : Rat) := by exact_mod_cast hu
  have h2 : (t : Rat) < (u : Rat) := by exact_mod_cast h
  rw [Rat.div_lt_iff h1, Rat.one_mul]
  exact h2
theorem neg_lt_div {t u : Int} (hu : 0 < u) (h : -u < t) : -1 < (t : Rat) / (u : Rat) := by
  have h1 : (0 : Rat) < (u : Rat) := by exact_mod_cast hu
  have h2 : ((-u : Int) : Rat) < (t : Rat) := by exact_mod_cast h
  rw [Rat.lt_div_iff h1]
  rw [Rat.intCast_neg] at h2
  grind
structure Pane (p : Rat) : Prop where
  lo : -1 < p
  hi : p < 1
  sm : Sm 6 p
theorem Pane.ne {p : Rat} (h : Pane p) : 1 + p ≠ 0 := by have := h.lo; grind
theorem pane_of {t u : Int} (hu : 0 < u) (hu2 : u < 64) (h1 : -u < t) (h2 : t < u) : Pane ((t : Rat) / (u : Rat)) :=
  ⟨neg_lt_div hu h1, div_lt_one hu h2, Sm.of (by omega) (by omega) (by omega)⟩
theorem bits_ok {x : Int} (h : x.natAbs < 2 ^ 100) : bits x < 9000 := by
  have := bits_le h
  omega
/-- any of the drawn pane's lists: each item a pane -/
theorem pane_items {x : D} {t u : Int} (hu : 2 ≤ u) (hu2 : u < 64) (h1 : -u < t) (h2 : t < u)
    (hx : x = fr ((t : Rat) / (u : Rat)) ∨ x = .tuple [.int 1, .int 2] ∨ x = .tuple [.int (-1), .int 2] ∨ x = .tuple [.int 1, .int 3] ∨ x = .tuple [.int 0, .int 1] ∨ x = .tuple [.int (1 - u), .int u]) : ∃ p, x = fr p ∧ Pane p := by
  rcases hx with rfl | rfl | rfl | rfl | rfl | rfl
  · exact ⟨_, rfl, pane_of (by omega) hu2 h1 h2⟩
  · exact ⟨_, fr_mk (by decide) (by decide), pane_of (by decide) (by decide) (by decide) (by decide)⟩
  · exact ⟨_, fr_mk (by decide) (by decide), pane_of (by decide) (by decide) (by decide) (by decide)⟩
  · exact ⟨_, fr_mk (by decide) (by decide), pane_of (by decide) (by decide) (by decide) (by decide)⟩
  · exact ⟨_, fr_mk (by decide) (by decide), pane_of (by decide) (by decide) (by decide) (by decide)⟩
  · exact ⟨_, fr_mk (by omega) (gcd_pred _), pane_of (by omega) hu2 (by omega) (by omega)⟩
theorem sem_pane_v2 {B : Nat} {d : D} (h : Box B d) (hB : B ≤ 100000) : ∃ (p : Rat) (d' : D), fn_law_pane_v2 [d] = .ok (fr p) [some d'] ∧ Pane p ∧ Box (B + 4) d' := by
  obtain ⟨r1, d1, e1, a1, b1, h1⟩ := sem_take (s := 3) h (by decide) (bits_ok (by decide)) (by omega)
  obtain ⟨s, hs, hs1, hs2⟩ : ∃ s : Int, gIx (.list [.int 3, .int 8, .int 59]) (.int r1) = some (.int s) ∧ 0 < s ∧ s ≤ 59 := by
    obtain rfl | rfl | rfl : r1 = 0 ∨ r1 = 1 ∨ r1 = 2 := by omega
    · exact ⟨3, rfl, by decide, by decide⟩
    · exact ⟨8, rfl, by decide, by decide⟩
    · exact ⟨59, rfl, by decide, by decide⟩
  obtain ⟨r2, d2, e2, a2, b2, h2⟩ := sem_take (s := s) h1 hs1 (bits_ok (by omega)) (by omega)
  obtain ⟨r3, d3, e3, a3, b3, h3⟩ := sem_take (s := 2 * (2 + r2) - 1) h2 (by omega) (bits_ok (by omega)) (by omega)
  have k1 : bits 2 + bits (2 + r2) < 100000000 := by have := bits_ok (x := 2) (by decide); have := bits_ok (x := 2 + r2) (by omega); omega
  have f1 := sem_law_frac (t := r3 - (2 + r2) + 1) (b := 2 + r2) (by omega) (bits_ok (by omega)) (bits_ok (by omega))
  generalize hq : fr (((r3 - (2 + r2) + 1 : Int) : Rat) / ((2 + r2 : Int) : Rat)) = q at f1
  obtain ⟨x, hx, d4, e4, h4⟩ := sem_of (l := [q, q, q, .tuple [.int 1, .int 2], .tuple [.int (-1), .int 2], .tuple [.int 1, .int 3], .tuple [.int 0, .int 1], .tuple [.int (1 - (2 + r2)), .int (2 + r2)]]) h3 (by show 0 < 8; decide) (by show 8 ≤ 1000000; decide) (by omega)
  have e : fn_law_pane_v2 [d] = fn_law_pane_v2 [d] := rfl
  conv at e => rhs; simp (disch := assumption) only [fn_law_pane_v2, den_law_pane_v2, fnD, dSeq, dSet, dRet, dRetS, dRetN, dCall, dCallB, dCallO, dCons, dNil, dVar, dSlot, dC, dOp, dIf, dIfS, dNx, dTest, dNotT, dAndT, dOrT, dAnd, dOr, dNot, dNeg, dTup, dLst, dPar, dAsg, dSetIx, dApp, dLenS, dIxS, atL, res, resA, lift, wb, R.bind, R.bind_ok, R.bind_exc, tN, tNil', tCons', tTup', tSq', gSqL, gSqT, gAddI, gSubI, gMulI, gDivI, gModI, gAbs, gInt, gLen, gMax, gMin, gGt, gLt, gGe, gLe, List.map_cons, List.map_nil, List.length_cons, List.length_nil, List.replicate_succ, List.replicate_zero, List.cons_append, List.nil_append, List.append_nil, List.getElem?_cons_zero, List.getElem?_cons_succ, List.getElem?_nil, List.set_cons_zero, List.set_cons_succ, Option.join_some, Option.join_none, Option.bind_some, Option.bind_none, Nat.zero_add, Nat.reduceAdd, Nat.reduceSub, Nat.sub_zero, if_true, Bool.false_eq_true, if_false, ite_true, ite_false, gSet0, gSet1, gSet2, gIx0, gIx1, gIx2, gIxL0, gIxL1, gIxL2, gCmp, decide_true, decide_false, Bool.not_true, Bool.not_false, Option.map_some, liftL, iVal, iArg, e1, e2, e3, hs, f1, e4]
  obtain ⟨p, rfl, hp⟩ := pane_items (x := x) (t := r3 - (2 + r2) + 1) (u := 2 + r2) (by omega) (by omega) (by omega) (by omega) (by
    rw [hq]
    simp only [List.mem_cons, List.not_mem_nil, or_false] at hx
    rcases hx with rfl | rfl | rfl | rfl | rfl | rfl | rfl | rfl <;> simp)
  exact ⟨p, d4, e, hp, h4⟩
section
variable {n m k : Nat} {p a b : Rat}
theorem sem_over [hp : Sm n p] [hq : Sm m a] (h : n + m < 8000) (h0 : a ≠ 0) : fn_over [fr p, fr a] = .ok (fr (p / a)) [] := by
  have := bn hp; have := bn hq; have := bd hp; have := bd hq
  have h1 : bits p.num + bits (a.den : Int) < 100000000 := by omega
  have h3 : bits (p.den : Int) + bits a.num < 100000000 := by omega
  simp (disch := assumption) only [fn_over, den_over, fnD, dSeq, dSet, dRet, dRetS, dRetN, dCall, dCallB, dCallO, dCons, dNil, dVar, dSlot, dC, dOp, dIf, dIfS, dNx, dTest, dNotT, dAndT, dOrT, dAnd, dOr, dNot, dNeg, dTup, dLst, dPar, dAsg, dSetIx, dApp, dLenS, dIxS, atL, res, resA, lift, wb, R.bind, R.bind_ok, R.bind_exc, tN, tNil', tCons', tTup', tSq', gSqL, gSqT, gAddI, gSubI, gMulI, gDivI, gModI, gAbs, gInt, gLen, gMax, gMin, gGt, gLt, gGe, gLe, List.map_cons, List.map_nil, List.length_cons, List.length_nil, List.replicate_succ, List.replicate_zero, List.cons_append, List.nil_append, List.append_nil, List.getElem?_cons_zero, List.getElem?_cons_succ, List.getElem?_nil, List.set_cons_zero, List.set_cons_succ, Option.join_some, Option.join_none, Option.bind_some, Option.bind_none, Nat.zero_add, Nat.reduceAdd, Nat.reduceSub, Nat.sub_zero, if_true, Bool.false_eq_true, if_false, ite_true, ite_false, gSet0, gSet1, gSet2, gIx0, gIx1, gIx2, gIxL0, gIxL1, gIxL2, gCmp, decide_true, decide_false, Bool.not_true, Bool.not_false, Option.map_some, liftL, iVal, iArg, gIxF0, gIxF1]
  rw [sem_frac (Int.mul_ne_zero (den_ne p) fun e => h0 (Rat.num_eq_zero.mp e)) (bits_lt (mul_abs hp.dn hq.num) (by omega) (by decide)), q_div]
end
/-! ### sums -/
/-! ### rooms -/
def rooms : Rat → List Rat → List Rat
  | r, [] => [r]
  | r, p :: ps => r :: rooms (r * (1 - p) / (1 + p)) ps
end Dn


namespace Dn
/-! the denotations -/
def den_law_row : Den Fl := (dSeq (dSet 3 (dCallB [none] gTuple (dCons (dLc [2] (iRange1 (dCons (dCall [0] [(some 0), none] [0] [] fn_law_take (dCons (dSlot 0) (dCons (dOp none none gAdd (dVar 1) (dC (.int 1))) dNil))) dNil)) (tN 2) dYes (dCall [0] [(some 0)] [0] [] fn_law_pane_v2 (dCons (dSlot 0) dNil))) dNil))) (dRet (dTup (dCons (dVar 3) (dCons (dCall [0] [(some 0), none] [0] [] fn_law_of (dCons (dSlot 0) (dCons (dLst (dCons (dC (.int 0)) (dCons (dC (.int 0)) (dCons (dC (.int 0)) (dCons (dC (.int 0)) (dCons (dC (.int 1)) (dCons (dNeg (dC (.int 1))) dNil))))))) dNil))) dNil)))))
def fn_law_row : Fn := fnD 4 [0] den_law_row
def den_padded : Den Fl := (dRet (dOpL none none gCatL (dCallB [none] (fun ds => (gSeq ds).map .list) (dCons (dVar 0) dNil)) (dOp none none gMul (dLst (dCons (dC (.tuple [(.int 0), (.int 1)])) dNil)) (dCallB [none, none] gMax (dCons (dC (.int 0)) (dCons (dOp none none gSub (dVar 1) (dCallB [none] gLen (dCons (dVar 0) dNil))) dNil))))))
def fn_padded : Fn := fnD 2 [] den_padded
def den_quotient_to_b0 : Den Fl := (dSetIx 3 (dOp none none gAdd (dVar 6) (dVar 7)) (dCall [] [none, none] [] [] fn_minus (dCons (dOp (some 3) none gIx (dSlot 3) (dOp none none gAdd (dVar 6) (dVar 7))) (dCons (dCall [] [none, none] [] [] fn_times (dCons (dOp (some 4) none gIx (dSlot 4) (dNeg (dC (.int 1)))) (dCons (dOp none none gIx (dVar 5) (dVar 7)) dNil))) dNil))))
def den_quotient_to_b1 : Den Fl := (dSeq (dApp 4 (dCall [] [none, none] [] [] fn_over (dCons (dOp (some 3) none gIx (dSlot 3) (dVar 6)) (dCons (dOp none none gIx (dVar 5) (dC (.int 0))) dNil)))) (dFor (iRange1 (dCons (dOp none none gSub (dVar 2) (dVar 6)) dNil)) (tN 7) den_quotient_to_b0))
def den_quotient_to : Den Fl := (dSeq (dPar 3 4 (dCall [] [none, none] [] [] fn_padded (dCons (dVar 0) (dCons (dVar 2) dNil))) (dLst dNil)) (dSeq (dSet 5 (dCall [] [none, none] [] [] fn_padded (dCons (dVar 1) (dCons (dVar 2) dNil)))) (dSeq (dFor (iRange1 (dCons (dVar 2) dNil)) (tN 6) den_quotient_to_b1) (dRetS 4))))
def fn_quotient_to : Fn := fnD 8 [] den_quotient_to
def den_filled : Den Fl := (dRet (dSlL none (dOp none none gAdd (dCallB [none] (fun ds => (gSeq ds).map .list) (dCons (dVar 0) dNil)) (dOp none none gMul (dLst (dCons (dC (.tuple [(.int 0), (.int 1)])) dNil)) (dVar 1))) dNoPart (dPart (dVar 1))))
def fn_filled : Fn := fnD 2 [] den_filled
def den_later : Den Fl := (dSeq (dSet 3 (dCall [] [none, none] [] [] fn_filled (dCons (dOp none none gAdd (dLst (dCons (dC (.tuple [(.int 0), (.int 1)])) dNil)) (dCallB [none] (fun ds => (gSeq ds).map .list) (dCons (dVar 1) dNil))) (dCons (dVar 2) dNil)))) (dSeq (dSet 5 (dLc [4] (iSq (dVar 3)) (tN 4) dYes (dCall [] [none, none] [] [] fn_times (dCons (dVar 0) (dCons (dVar 4) dNil))))) (dRet (dCall [] [none, none, none] [] [] fn_quotient_to (dCons (dOp none none gAdd (dLst (dCons (dVar 0) dNil)) (dSl none (dVar 3) (dPart (dC (.int 1))) dNoPart)) (dCons (dOp none none gAdd (dLst (dCons (dC (.tuple [(.int 1), (.int 1)])) dNil)) (dSl (some 5) (dSlot 5) (dPart (dC (.int 1))) dNoPart)) (dCons (dVar 2) dNil)))))))
def fn_later : Fn := fnD 6 [] den_later
def den_echo_b0 : Den Fl := (dSet 4 (dCall [] [none, none, none] [] [] fn_later (dCons (dVar 5) (dCons (dVar 4) (dCons (dVar 1) dNil)))))
def den_echo : Den Fl := (dSeq (dAsg (tSq' 2 (tCons' (tN 2) (tCons' (tN 3) tNil'))) (dVar 0)) (dSeq (dSet 4 (dCall [] [none, none] [] [] fn_filled (dCons (dLst (dCons (dTup (dCons (dVar 3) (dCons (dC (.int 1)) dNil))) dNil)) (dCons (dVar 1) dNil)))) (dSeq (dFor (iSq (dRevD (dVar 2))) (tN 5) den_echo_b0) (dRetS 4))))
def fn_echo : Fn := fnD 6 [] den_echo
def den_law_beat_b0 : Den Fl := (dAsg (tSq' 2 (tCons' (tIx 7 (dVar 9)) (tCons' (tIx 8 (dOp none none gAdd (dVar 9) (dC (.int 1)))) tNil'))) (dCall [] [none, none, none] [] [] fn_law_met (dCons (dVar 10) (dCons (dOp none none gIx (dOp none none gIx (dVar 6) (dVar 9)) (dC (.int 0))) (dCons (dOp none none gIx (dOp none none gIx (dVar 6) (dOp none none gAdd (dVar 9) (dC (.int 1)))) (dC (.int 1))) dNil)))))
def den_law_beat : Den Fl := (dSeq (dAsg (tSq' 2 (tCons' (tN 3) (tCons' (tN 4) tNil'))) (dVar 0)) (dSeq (dPar 5 6 (dCallB [none] gLen (dCons (dVar 3) dNil)) (dOp none none gAdd (dOp none none gAdd (dLst (dCons (dTup (dCons (dOp none none gIx (dVar 2) (dC (.int 0))) (dCons (dTup (dCons (dC (.int 0)) (dCons (dC (.int 1)) dNil))) dNil))) dNil)) (dCallB [none] (fun ds => (gSeq ds).map .list) (dCons (dVar 1) dNil))) (dOp none none gMul (dLst (dCons (dTup (dCons (dTup (dCons (dC (.int 0)) (dCons (dC (.int 1)) dNil))) (dCons (dOp none none gIx (dVar 2) (dC (.int 1))) dNil))) dNil)) (dCallB [none] gInt (dCons (dOp none none gEq (dVar 4) (dC (.int 0))) dNil))))) (dSeq (dIfS (dTest (dOp none none gEq (dVar 5) (dC (.int 0)))) (dRet (dIf (dTest (dOp none none gNe (dVar 4) (dC (.int 0)))) (dTup (dCons (dLst dNil) (dCons (dCall [] [none, none] [] [] fn_law_times (dCons (dTup (dCons (dVar 4) (dCons (dC (.int 1)) dNil))) (dCons (dOp none none gIx (dVar 2) (dC (.int 0))) dNil))) (dCons (dTup (dCons (dC (.int 0)) (dCons (dC (.int 1)) dNil))) dNil)))) (dTup (dCons (dLst dNil) (dCons (dOp none none gIx (dVar 2) (dC (.int 1))) (dCons (dOp none none gIx (dVar 2) (dC (.int 0))) dNil)))))) dNx) (dSeq (dSet 7 (dOpL none none gRepL (dLst (dCons (dTup (dCons (dC (.int 0)) (dCons (dC (.int 1)) dNil))) dNil)) (dOp none none gAdd (dVar 5) (dC (.int 2))))) (dSeq (dSet 8 (dOpL none none gRepL (dLst (dCons (dTup (dCons (dC (.int 0)) (dCons (dC (.int 1)) dNil))) dNil)) (dOp none none gAdd (dVar 5) (dC (.int 2))))) (dSeq (dFor (iEnM (dCons (dVar 3) dNil)) (tSq' 2 (tCons' (tN 9) (tCons' (tN 10) tNil'))) den_law_beat_b0) (dSeq (dIfS (dTest (dOp none none gNe (dVar 4) (dC (.int 0)))) (dSeq (dSetIx 7 (dVar 5) (dCall [] [none, none] [] [] fn_law_times (dCons (dTup (dCons (dVar 4) (dCons (dC (.int 1)) dNil))) (dCons (dOp none none gIx (dOp none none gIx (dVar 6) (dVar 5)) (dC (.int 0))) dNil)))) (dRet (dTup (dCons (dLc [11] (iRange2 (dCons (dC (.int 1)) (dCons (dOp none none gAdd (dVar 5) (dC (.int 1))) dNil))) (tN 11) dYes (dTup (dCons (dOp (some 8) none gIx (dSlot 8) (dVar 11)) (dCons (dOp (some 7) none gIx (dSlot 7) (dVar 11)) dNil)))) (dCons (dOp (some 7) none gIx (dSlot 7) (dC (.int 0))) (dCons (dTup (dCons (dC (.int 0)) (dCons (dC (.int 1)) dNil))) dNil)))))) dNx) (dRet (dTup (dCons (dLc [11] (iRange2 (dCons (dC (.int 1)) (dCons (dVar 5) dNil))) (tN 11) dYes (dTup (dCons (dOp (some 8) none gIx (dSlot 8) (dVar 11)) (dCons (dOp (some 7) none gIx (dSlot 7) (dVar 11)) dNil)))) (dCons (dOp (some 7) none gIx (dSlot 7) (dC (.int 0))) (dCons (dOp (some 8) none gIx (dSlot 8) (dVar 5)) dNil))))))))))))
def fn_law_beat : Fn := fnD 12 [] den_law_beat
def den_law_heard_b0 : Den Fl := (dSeq (dSet 6 (dIf (dTest (dOp none none gLt (dVar 5) (dCallB [none] gLen (dCons (dVar 1) dNil)))) (dOp none none gIx (dVar 1) (dVar 5)) (dTup (dCons (dTup (dCons (dC (.int 0)) (dCons (dC (.int 1)) dNil))) (dCons (dTup (dCons (dC (.int 0)) (dCons (dC (.int 1)) dNil))) dNil))))) (dSeq (dAsg (tSq' 3 (tCons' (tN 3) (tCons' (tN 7) (tCons' (tN 8) tNil')))) (dCall [] [none, none, none] [] [] fn_law_beat (dCons (dVar 0) (dCons (dVar 3) (dCons (dVar 6) dNil))))) (dApp 4 (dTup (dCons (dVar 7) (dCons (dVar 8) dNil))))))
def den_law_heard : Den Fl := (dSeq (dPar 3 4 (dOp none none gMul (dLst (dCons (dTup (dCons (dTup (dCons (dC (.int 0)) (dCons (dC (.int 1)) dNil))) (dCons (dTup (dCons (dC (.int 0)) (dCons (dC (.int 1)) dNil))) dNil))) dNil)) (dOp none none gSub (dCallB [none] gLen (dCons (dOp none none gIx (dVar 0) (dC (.int 0))) dNil)) (dCallB [none] gInt (dCons (dOp none none gEq (dOp none none gIx (dVar 0) (dC (.int 1))) (dC (.int 0))) dNil)))) (dLst dNil)) (dSeq (dFor (iRange1 (dCons (dVar 2) dNil)) (tN 5) den_law_heard_b0) (dRetS 4)))
def fn_law_heard : Fn := fnD 9 [] den_law_heard
def den_law_echo : Den Fl := (dSeq (dIfS (dTest (dOp none none gEq (dVar 0) (dTup (dCons (dTup dNil) (dCons (dC (.int 0)) dNil))))) (dRet (dOpL none none gRepL (dLst (dCons (dTup (dCons (dC (.int 0)) (dCons (dC (.int 1)) dNil))) dNil)) (dVar 1))) dNx) (dSeq (dSet 2 (dCall [] [none, none, none] [] [] fn_law_heard (dCons (dVar 0) (dCons (dLst (dCons (dTup (dCons (dTup (dCons (dC (.int 1)) (dCons (dC (.int 1)) dNil))) (dCons (dTup (dCons (dC (.int 0)) (dCons (dC (.int 1)) dNil))) dNil))) dNil)) (dCons (dOp none none gMul (dC (.int 2)) (dVar 1)) dNil))))) (dRet (dLc [3] (iRange1 (dCons (dVar 1) dNil)) (tN 3) dYes (dOp none none gIx (dOp none none gIx (dVar 2) (dOp none none gMul (dC (.int 2)) (dVar 3))) (dC (.int 0)))))))
def fn_law_echo : Fn := fnD 4 [] den_law_echo
def den_law_light_row_b0 : Den Fl := (dSeq (dSet 4 (dOp none none gAdd (dC (.int 2)) (dCall [0] [(some 0), none] [0] [] fn_law_take (dCons (dSlot 0) (dCons (dC (.int 7)) dNil))))) (dSeq (dSet 5 (dCall [] [none, none] [] [] fn_law_frac (dCons (dOp none none gAdd (dOp none none gSub (dCall [0] [(some 0), none] [0] [] fn_law_take (dCons (dSlot 0) (dCons (dOp none none gSub (dOp none none gMul (dC (.int 2)) (dVar 4)) (dC (.int 1))) dNil))) (dVar 4)) (dC (.int 1))) (dCons (dVar 4) dNil)))) (dApp 2 (dCall [0] [(some 0), none] [0] [] fn_law_of (dCons (dSlot 0) (dCons (dLst (dCons (dVar 5) (dCons (dVar 5) (dCons (dTup (dCons (dC (.int 0)) (dCons (dC (.int 1)) dNil))) (dCons (dTup (dCons (dOp none none gSub (dC (.int 1)) (dVar 4)) (dCons (dVar 4) dNil))) dNil))))) dNil))))))
def den_law_light_row : Den Fl := (dSeq (dIfS (dTest (dOp none none gEq (dCall [0] [(some 0), none] [0] [] fn_law_take (dCons (dSlot 0) (dCons (dC (.int 3)) dNil))) (dC (.int 0)))) (dRet (dCall [0] [(some 0), none] [0] [] fn_law_row (dCons (dSlot 0) (dCons (dCallB [none, none] gMin (dCons (dC (.int 3)) (dCons (dVar 1) dNil))) dNil)))) dNx) (dSeq (dSet 2 (dLst dNil)) (dSeq (dFor (iRange1 (dCons (dCall [0] [(some 0), none] [0] [] fn_law_take (dCons (dSlot 0) (dCons (dOp none none gAdd (dVar 1) (dC (.int 1))) dNil))) dNil)) (tN 3) den_law_light_row_b0) (dRet (dTup (dCons (dCallB [(some 2)] gTuple (dCons (dSlot 2) dNil)) (dCons (dCall [0] [(some 0), none] [0] [] fn_law_of (dCons (dSlot 0) (dCons (dLst (dCons (dC (.int 0)) (dCons (dC (.int 0)) (dCons (dC (.int 0)) (dCons (dC (.int 0)) (dCons (dC (.int 1)) (dCons (dNeg (dC (.int 1))) dNil))))))) dNil))) dNil)))))))
def fn_law_light_row : Fn := fnD 6 [0] den_law_light_row
def den_is_number : Den Fl := (dRet (dAnd (dIsi "int" none (dVar 0)) (dNot (dIsi "bool" none (dVar 0)))))
def fn_is_number : Fn := fnD 1 [] den_is_number
def den_is_frac : Den Fl := (dSeq (dIfS (dOrT (dNotT (dTest (dIsi "tuple" none (dVar 0)))) (dOrT (dTest (dOp none none gNe (dCallB [none] gLen (dCons (dVar 0) dNil)) (dC (.int 2)))) (dNotT (dTest (dCallB [none] gAll (dCons (dLc [1] (iSq (dVar 0)) (tN 1) dYes (dCall [] [none] [] [] fn_is_number (dCons (dVar 1) dNil))) dNil)))))) (dRet (dC (.bool false))) dNx) (dSeq (dAsg (tSq' 2 (tCons' (tN 2) (tCons' (tN 3) tNil'))) (dVar 0)) (dRet (dAnd (dOp none none gGt (dVar 3) (dC (.int 0))) (dOp none none gEq (dCall [] [none, none] [] [] fn_common (dCons (dCallB [none] gAbs (dCons (dVar 2) dNil)) (dCons (dVar 3) dNil))) (dC (.int 1)))))))
def fn_is_frac : Fn := fnD 4 [] den_is_frac
def den_is_pane : Den Fl := (dRet (dAnd (dCall [] [none] [] [] fn_is_frac (dCons (dVar 0) dNil)) (dOp none none gLt (dCallB [none] gAbs (dCons (dOp none none gIx (dVar 0) (dC (.int 0))) dNil)) (dOp none none gIx (dVar 0) (dC (.int 1))))))
def fn_is_pane : Fn := fnD 1 [] den_is_pane
def den_is_row : Den Fl := (dSeq (dIfS (dOrT (dNotT (dTest (dIsi "tuple" none (dVar 0)))) (dTest (dOp none none gNe (dCallB [none] gLen (dCons (dVar 0) dNil)) (dC (.int 2))))) (dRet (dC (.bool false))) dNx) (dSeq (dAsg (tSq' 2 (tCons' (tN 1) (tCons' (tN 2) tNil'))) (dVar 0)) (dSeq (dIfS (dOrT (dNotT (dTest (dIsi "tuple" none (dVar 1)))) (dNotT (dTest (dCallB [none] gAll (dCons (dLc [3] (iSq (dVar 1)) (tN 3) dYes (dCall [] [none] [] [] fn_is_pane (dCons (dVar 3) dNil))) dNil))))) (dRet (dC (.bool false))) dNx) (dRet (dAnd (dCall [] [none] [] [] fn_is_number (dCons (dVar 2) dNil)) (dOp none none gIn (dVar 2) (dC (.tuple [(.int (-1)), (.int 0), (.int 1)]))))))))
def fn_is_row : Fn := fnD 4 [] den_is_row
def den_shows_row : Den Fl := (dRet (dAnd (dCall [] [none] [] [] fn_is_row (dCons (dVar 1) dNil)) (dOp none none gEq (dCall [] [none, none] [] [] fn_echo (dCons (dVar 1) (dCons (dCallB [none] gLen (dCons (dVar 0) dNil)) dNil))) (dCallB [none] (fun ds => (gSeq ds).map .list) (dCons (dVar 0) dNil)))))
def fn_shows_row : Fn := fnD 2 [] den_shows_row
end Dn


/-! Ps: power series over the rationals. -/
namespace Dn
/-- sums below n -/
def sm (n : Nat) (f : Nat → Rat) : Rat := match n with
  | 0 => 0
  | n + 1 => sm n f + f n
theorem sm_congr {n : Nat} {f g : Nat → Rat} (h : ∀ i, i < n → f i = g i) : sm n f = sm n g := by
  induction n with
  | zero => rfl
  | succ n ih => show sm n f + f n = sm n g + g n; rw [ih fun i hi => h i (by omega), h n (by omega)]
theorem sm_zero {n : Nat} {f : Nat → Rat} (h : ∀ i, i < n → f i = 0) : sm n f = 0 := by
  induction n with
  | zero => rfl
  | succ n ih => show sm n f + f n = 0; rw [ih fun i hi => h i (by omega), h n (by omega)]; exact Rat.add_zero 0
theorem sm_add {n : Nat} {f g : Nat → Rat} : sm n (fun i => f i + g i) = sm n f + sm n g := by
  induction n with
  | zero => show (0 : Rat) = 0 + 0; exact (Rat.add_zero 0).symm
  | succ n ih => show sm n _ + (f n + g n) = (sm n f + f n) + (sm n g + g n); rw [ih]; grind
theorem sm_mul {n : Nat} {f : Nat → Rat} (c : Rat) : sm n (fun i => c * f i) = c * sm n f := by
  induction n with
  | zero => show (0 : Rat) = c * 0; grind
  | succ n ih => show sm n _ + c * f n = c * (sm n f + f n); rw [ih]; grind
theorem sm_mulR {n : Nat} {f : Nat → Rat} (c : Rat) : sm n (fun i => f i * c) = sm n f * c := by
  rw [show (fun i => f i * c) = fun i => c * f i from funext fun i => Rat.mul_comm _ _, sm_mul, Rat.mul_comm]
theorem sm_head {n : Nat} {f : Nat → Rat} : sm (n + 1) f = f 0 + sm n (fun i => f (i + 1)) := by
  induction n with
  | zero => show (0 : Rat) + f 0 = f 0 + 0; grind
  | succ n ih => show sm (n + 1) f + f (n + 1) = f 0 + (sm n _ + f (n + 1)); rw [ih]; grind
theorem sm_rev {n : Nat} {f : Nat → Rat} : sm n f = sm n (fun i => f (n - 1 - i)) := by
  induction n with
  | zero => rfl
  | succ n ih =>
    rw [sm_head (f := fun i => f (n + 1 - 1 - i))]
    show sm n f + f n = f (n + 1 - 1 - 0) + _
    rw [ih, sm_congr (g := fun i => f (n + 1 - 1 - (i + 1))) (f := fun i => f (n - 1 - i)) fun i hi => by
      show f _ = f _
      congr 1
      omega]
    show _ + f n = f n + _
    grind
theorem sm_swap {n m : Nat} {f : Nat → Nat → Rat} : sm n (fun i => sm m (fun j => f i j)) = sm m (fun j => sm n (fun i => f i j)) := by
  induction n with
  | zero => exact (sm_zero fun _ _ => rfl).symm
  | succ n ih =>
    show sm n _ + sm m _ = sm m _
    rw [ih, ← sm_add]
    rfl
theorem sm_more {n m : Nat} {f : Nat → Rat} (h : n ≤ m) (z : ∀ i, n ≤ i → i < m → f i = 0) : sm m f = sm n f := by
  induction m with
  | zero =>
    obtain rfl : n = 0 := by omega
    rfl
  | succ m ih =>
    by_cases e : n = m + 1
    · rw [e]
    · show sm m f + f m = _
      rw [ih (by omega) fun i a b => z i a (by omega), z m (by omega) (by omega)]
      grind
/-- one at k alone -/
theorem sm_one {n k : Nat} {f : Nat → Rat} (hk : k < n) (z : ∀ i, i < n → i ≠ k → f i = 0) : sm n f = f k := by
  induction n with
  | zero => omega
  | succ n ih =>
    show sm n f + f n = _
    by_cases e : k = n
    · subst e
      rw [sm_zero fun i hi => z i (by omega) (by omega)]
      grind
    · rw [ih (by omega) fun i a b => z i (by omega) b, z n (by omega) (by omega)]
      grind
/-- a power series -/
structure PS where
  c : Nat → Rat
namespace PS
@[ext] theorem ext {f g : PS} (h : ∀ n, f.c n = g.c n) : f = g := by
  cases f; cases g
  congr 1
  exact funext h
def add (f g : PS) : PS := ⟨fun n => f.c n + g.c n⟩
def neg (f : PS) : PS := ⟨fun n => - f.c n⟩
def mul (f g : PS) : PS := ⟨fun n => sm (n + 1) fun i => f.c i * g.c (n - i)⟩
def C (a : Rat) : PS := ⟨fun n => if n = 0 then a else 0⟩
/-- times x -/
def X : PS := ⟨fun n => if n = 1 then 1 else 0⟩
instance : Add PS := ⟨add⟩
instance : Neg PS := ⟨neg⟩
instance : Mul PS := ⟨mul⟩
instance : _root_.Sub PS := ⟨fun f g => add f (neg g)⟩
instance : NatCast PS := ⟨fun n => C n⟩
instance : IntCast PS := ⟨fun n => C n⟩
instance (n : Nat) : OfNat PS n := ⟨C n⟩
theorem add_c (f g : PS) (n : Nat) : (f + g).c n = f.c n + g.c n := rfl
theorem neg_c (f : PS) (n : Nat) : (-f).c n = - f.c n := rfl
theorem sub_c (f g : PS) (n : Nat) : (f - g).c n = f.c n - g.c n := (Rat.sub_eq_add_neg _ _).symm
theorem mul_c (f g : PS) (n : Nat) : (f * g).c n = sm (n + 1) fun i => f.c i * g.c (n - i) := rfl
theorem C_c (a : Rat) (n : Nat) : (C a).c n = if n = 0 then a else 0 := rfl
theorem C_mul (a : Rat) (f : PS) (n : Nat) : (C a * f).c n = a * f.c n := by
  rw [mul_c, sm_one (k := 0) (by omega) fun i hi h => by rw [C_c, if_neg h]; grind]
  rfl
theorem X_mul (f : PS) (n : Nat) : (X * f).c (n + 1) = f.c n := by
  rw [mul_c, sm_one (k := 1) (by omega) fun i hi h => by show (if i = 1 then (1 : Rat) else 0) * _ = 0; rw [if_neg h]; grind]
  show (1 : Rat) * f.c (n + 1 - 1) = _
  rw [Nat.add_sub_cancel]
  grind
theorem X_mul0 (f : PS) : (X * f).c 0 = 0 := by
  show (0 : Rat) + (0 : Rat) * _ = 0
  grind
theorem mul_comm (f g : PS) : f * g = g * f := ext fun n => by
  rw [mul_c, mul_c, sm_rev]
  exact sm_congr fun i hi => by
    show f.c (n + 1 - 1 - i) * g.c (n - (n + 1 - 1 - i)) = _
    rw [show n + 1 - 1 - i = n - i by omega, show n - (n - i) = i by omega]
    exact Rat.mul_comm _ _
theorem mul_assoc (f g h : PS) : f * g * h = f * (g * h) := ext fun n => by
  -- sum over i + j + k = n, with all indices below n + 1
  rw [mul_c, mul_c]
  have e1 : ∀ i, i < n + 1 → (f * g).c i * h.c (n - i) = sm (n + 1) fun j => if j ≤ i then f.c j * g.c (i - j) * h.c (n - i) else 0 := fun i hi => by
    rw [mul_c, ← sm_mulR, sm_more (n := i + 1) (m := n + 1) (by omega) (f := fun j => if j ≤ i then f.c j * g.c (i - j) * h.c (n - i) else 0) (fun j a b => by rw [if_neg (by omega)])]
    exact sm_congr fun j hj => by rw [if_pos (by omega)]
  have e2 : ∀ j, j < n + 1 → f.c j * (g * h).c (n - j) = sm (n + 1) fun i => if j ≤ i then f.c j * g.c (i - j) * h.c (n - i) else 0 := fun j hj => by
    rw [mul_c, ← sm_mul]
    -- shift by j
    have sh : ∀ (m : Nat) (q : Nat → Rat), (∀ i, i < j → q i = 0) → sm (j + m) q = sm m fun k => q (j + k) := fun m q hq => by
      induction m with
      | zero => exact sm_zero hq
      | succ m ih => show sm (j + m) q + q (j + m) = _; rw [ih]; rfl
    rw [show n + 1 = j + (n - j + 1) by omega, sh _ _ fun i hi => by rw [if_neg (by omega)]]
    exact sm_congr fun k hk => by
      rw [if_pos (by omega), show j + k - j = k by omega, show n - (j + k) = n - j - k by omega]
      grind
  rw [sm_congr e1, sm_congr (f := fun j => f.c j * (g * h).c (n - j)) e2, sm_swap]
theorem add_mul (f g h : PS) : (f + g) * h = f * h + g * h := ext fun n => by
  rw [mul_c, add_c, mul_c, mul_c, ← sm_add]
  exact sm_congr fun i _ => by rw [add_c]; grind
theorem one_mul (f : PS) : 1 * f = f := ext fun n => by
  have := C_mul 1 f n
  rw [show (1 : PS) * f = C 1 * f from rfl, this]
  grind
theorem C_add (a b : Rat) : C (a + b) = C a + C b := ext fun n => by
  rw [add_c, C_c, C_c, C_c]
  split <;> grind
theorem C_neg (a : Rat) : C (-a) = -C a := ext fun n => by
  rw [neg_c, C_c, C_c]
  split <;> grind
theorem zero_c (n : Nat) : (0 : PS).c n = 0 := by
  show (if n = 0 then ((0 : Nat) : Rat) else 0) = 0
  split <;> rfl
def npow (f : PS) : Nat → PS
  | 0 => 1
  | n + 1 => npow f n * f
instance : HPow PS Nat PS := ⟨npow⟩
instance : SMul Nat PS := ⟨fun n f => (n : PS) * f⟩
instance : SMul Int PS := ⟨fun n f => (n : PS) * f⟩
theorem add_comm (f g : PS) : f + g = g + f := ext fun n => by rw [add_c, add_c]; grind
theorem add_assoc (f g h : PS) : f + g + h = f + (g + h) := ext fun n => by simp only [add_c]; grind
theorem add_zero (f : PS) : f + 0 = f := ext fun n => by rw [add_c, zero_c]; grind
theorem zero_mul (f : PS) : 0 * f = 0 := ext fun n => by
  rw [show (0 : PS) * f = C 0 * f from rfl, C_mul, zero_c]
  grind
instance : Lean.Grind.CommRing PS where
  add_zero := add_zero
  add_comm := add_comm
  add_assoc := add_assoc
  mul_assoc := mul_assoc
  mul_one f := by rw [mul_comm]; exact one_mul f
  one_mul := one_mul
  left_distrib f g h := by rw [mul_comm, add_mul, mul_comm g, mul_comm h]
  right_distrib f g h := add_mul f g h
  zero_mul := zero_mul
  mul_zero f := by rw [mul_comm]; exact zero_mul f
  mul_comm := mul_comm
  pow_zero f := rfl
  pow_succ f n := rfl
  ofNat_succ n := by
    show C ((n + 1 : Nat) : Rat) = C (n : Rat) + C ((1 : Nat) : Rat)
    rw [← C_add]
    congr 1
    exact_mod_cast rfl
  ofNat_eq_natCast n := rfl
  nsmul_eq_natCast_mul n f := rfl
  zsmul_natCast_eq_nsmul n f := rfl
  neg_add_cancel f := ext fun n => by rw [add_c, neg_c, zero_c]; grind
  sub_eq_add_neg f g := rfl
  neg_zsmul i f := by
    show C ((-i : Int) : Rat) * f = -(C (i : Rat) * f)
    rw [Rat.intCast_neg]
    ext n
    rw [neg_c, C_mul, C_mul]
    grind
  intCast_ofNat n := rfl
  intCast_neg i := by
    show C ((-i : Int) : Rat) = - C (i : Rat)
    rw [Rat.intCast_neg, C_neg]
example (f g h : PS) : (f + g) * (f - g) + h = f * f - g * g + h := by grind
end PS
end Dn


/-! Ps2: quotients of series; what agrees to a power; series by every second power. -/
namespace Dn
namespace PS
/-- the first n numbers of a quotient -/
def quoL (a b : PS) : Nat → List Rat
  | 0 => []
  | n + 1 => quoL a b n ++ [(a.c n - sm n fun i => (quoL a b n).getD i 0 * b.c (n - i)) / b.c 0]
theorem quoL_succ (a b : PS) (n : Nat) : quoL a b (n + 1) = quoL a b n ++ [(a.c n - sm n fun i => (quoL a b n).getD i 0 * b.c (n - i)) / b.c 0] := rfl
theorem quoL_len (a b : PS) : ∀ n, (quoL a b n).length = n
  | 0 => rfl
  | n + 1 => by rw [quoL_succ, List.length_append, quoL_len a b n]; rfl
def div (a b : PS) : PS := ⟨fun n => (quoL a b (n + 1)).getD n 0⟩
theorem quoL_get (a b : PS) : ∀ n i, i < n → (quoL a b n).getD i 0 = (div a b).c i
  | 0, i, h => by omega
  | n + 1, i, h => by
    by_cases e : i = n
    · subst e; rfl
    · rw [← quoL_get a b n i (by omega)]
      rw [quoL_succ, List.getD_eq_getElem?_getD, List.getD_eq_getElem?_getD, List.getElem?_append_left (by rw [quoL_len]; omega)]
theorem div_c (a b : PS) (n : Nat) : (div a b).c n = (a.c n - sm n fun i => (div a b).c i * b.c (n - i)) / b.c 0 := by
  show (quoL a b (n + 1)).getD n 0 = _
  rw [quoL_succ, List.getD_eq_getElem?_getD, List.getElem?_append_right (by rw [quoL_len]; omega), quoL_len, Nat.sub_self]
  show (a.c n - sm n _) / b.c 0 = _
  rw [sm_congr fun i hi => by rw [quoL_get a b n i hi]]
theorem div_mul {a b : PS} (h : b.c 0 ≠ 0) : div a b * b = a := ext fun n => by
  rw [mul_c]
  show sm n _ + (div a b).c n * b.c (n - n) = _
  rw [Nat.sub_self, div_c a b n]
  have : ∀ s : Rat, (s : Rat) + (a.c n - s) / b.c 0 * b.c 0 = a.c n := fun s => by grind
  exact this _
/-- what agrees below n -/
def EqTo (n : Nat) (f g : PS) : Prop := ∀ i, i < n → f.c i = g.c i
theorem EqTo.refl {n : Nat} (f : PS) : EqTo n f f := fun _ _ => rfl
theorem EqTo.symm {n : Nat} {f g : PS} (h : EqTo n f g) : EqTo n g f := fun i hi => (h i hi).symm
theorem EqTo.trans {n : Nat} {f g h : PS} (a : EqTo n f g) (b : EqTo n g h) : EqTo n f h := fun i hi => (a i hi).trans (b i hi)
theorem EqTo.le {n m : Nat} {f g : PS} (h : EqTo n f g) (l : m ≤ n) : EqTo m f g := fun i hi => h i (by omega)
theorem EqTo.add {n : Nat} {f g f' g' : PS} (a : EqTo n f f') (b : EqTo n g g') : EqTo n (f + g) (f' + g') := fun i hi => by rw [add_c, add_c, a i hi, b i hi]
theorem EqTo.sub {n : Nat} {f g f' g' : PS} (a : EqTo n f f') (b : EqTo n g g') : EqTo n (f - g) (f' - g') := fun i hi => by rw [sub_c, sub_c, a i hi, b i hi]
theorem EqTo.mul {n : Nat} {f g f' g' : PS} (a : EqTo n f f') (b : EqTo n g g') : EqTo n (f * g) (f' * g') := fun i hi => by
  rw [mul_c, mul_c]
  exact sm_congr fun j hj => by rw [a j (by omega), b (i - j) (by omega)]
theorem EqTo.X {n : Nat} {f g : PS} (a : EqTo n f g) : EqTo (n + 1) (PS.X * f) (PS.X * g) := fun i hi => by
  cases i with
  | zero => rw [X_mul0, X_mul0]
  | succ i => rw [X_mul, X_mul]; exact a i (by omega)
theorem EqTo.div {n : Nat} {f g f' g' : PS} (a : EqTo n f f') (b : EqTo n g g') : EqTo n (div f g) (div f' g') := by
  have : ∀ k i, i < k → i < n → (PS.div f g).c i = (PS.div f' g').c i := by
    intro k
    induction k with
    | zero => intro i h; omega
    | succ k ih =>
      intro i h1 h2
      rw [div_c, div_c f', a i h2, b 0 (by omega)]
      congr 1
      congr 1
      exact sm_congr fun j hj => by rw [ih j (by omega) (by omega), b (i - j) (by omega)]
  exact fun i hi => this (i + 1) i (by omega) hi
theorem eq_of_all {f g : PS} (h : ∀ n, EqTo n f g) : f = g := ext fun n => h (n + 1) n (by omega)
/-- a factor whose first number isn't 0 may be taken off, as far as one sees -/
theorem EqTo.cancel {n : Nat} {f g b : PS} (h0 : b.c 0 ≠ 0) (h : EqTo n (f * b) (g * b)) : EqTo n f g := by
  have : ∀ k i, i < k → i < n → f.c i = g.c i := by
    intro k
    induction k with
    | zero => intro i h; omega
    | succ k ih =>
      intro i h1 h2
      have e := h i h2
      rw [mul_c, mul_c] at e
      have e1 : sm i (fun j => f.c j * b.c (i - j)) = sm i (fun j => g.c j * b.c (i - j)) := sm_congr fun j hj => by rw [ih j (by omega) (by omega)]
      have e : sm i (fun j => f.c j * b.c (i - j)) + f.c i * b.c (i - i) = sm i (fun j => g.c j * b.c (i - j)) + g.c i * b.c (i - i) := e
      rw [e1, Nat.sub_self] at e
      have : f.c i * b.c 0 = g.c i * b.c 0 := by grind
      grind
  exact fun i hi => this (i + 1) i (by omega) hi
theorem cancel {f g b : PS} (h0 : b.c 0 ≠ 0) (h : f * b = g * b) : f = g := eq_of_all fun n => EqTo.cancel h0 (by rw [h]; exact EqTo.refl _)
/-! ### lists -/
def tk (n : Nat) (f : PS) : List Rat := (List.range n).map f.c
theorem tk_len (n : Nat) (f : PS) : (tk n f).length = n := by unfold tk; rw [List.length_map, List.length_range]
theorem tk_get {n i : Nat} {f : PS} (h : i < n) : (tk n f)[i]? = some (f.c i) := by
  unfold tk
  rw [List.getElem?_map, List.getElem?_range h]
  rfl
/-! ### every second power -/
def dbl (f : PS) : PS := ⟨fun n => if n % 2 = 0 then f.c (n / 2) else 0⟩
theorem dbl_even (f : PS) (n : Nat) : (dbl f).c (2 * n) = f.c n := by
  show (if 2 * n % 2 = 0 then f.c (2 * n / 2) else 0) = _
  rw [if_pos (by omega), show 2 * n / 2 = n by omega]
theorem dbl_odd (f : PS) (n : Nat) : (dbl f).c (2 * n + 1) = 0 := by
  show (if (2 * n + 1) % 2 = 0 then f.c ((2 * n + 1) / 2) else 0) = _
  rw [if_neg (by omega)]
theorem sm_even {m : Nat} {h : Nat → Rat} (z : ∀ j, h (2 * j + 1) = 0) : sm (2 * m + 1) h = sm (m + 1) fun j => h (2 * j) := by
  induction m with
  | zero => rfl
  | succ m ih =>
    show sm (2 * m + 1) h + h (2 * m + 1) + h (2 * (m + 1)) = sm (m + 1) _ + h (2 * (m + 1))
    rw [ih, z]
    grind
theorem dbl_mul (f g : PS) : dbl (f * g) = dbl f * dbl g := ext fun n => by
  rw [mul_c]
  rcases Nat.mod_two_eq_zero_or_one n with e | e
  · obtain ⟨m, rfl⟩ : ∃ m, n = 2 * m := ⟨n / 2, by omega⟩
    rw [dbl_even, sm_even (fun j => by rw [dbl_odd]; grind), mul_c]
    exact sm_congr fun j hj => by rw [dbl_even, show 2 * m - 2 * j = 2 * (m - j) by omega, dbl_even]
  · obtain ⟨m, rfl⟩ : ∃ m, n = 2 * m + 1 := ⟨n / 2, by omega⟩
    rw [dbl_odd]
    refine (sm_zero fun j hj => ?_).symm
    rcases Nat.mod_two_eq_zero_or_one j with e2 | e2
    · rw [show 2 * m + 1 - j = 2 * (m - j / 2) + 1 by omega, dbl_odd]; grind
    · rw [show j = 2 * (j / 2) + 1 by omega, dbl_odd]; grind
theorem dbl_add (f g : PS) : dbl (f + g) = dbl f + dbl g := ext fun n => by
  show (if n % 2 = 0 then f.c (n / 2) + g.c (n / 2) else 0) = (if n % 2 = 0 then f.c (n / 2) else 0) + (if n % 2 = 0 then g.c (n / 2) else 0)
  split <;> grind
theorem dbl_C (a : Rat) : dbl (C a) = C a := ext fun n => by
  show (if n % 2 = 0 then (if n / 2 = 0 then a else 0) else 0) = if n = 0 then a else 0
  split
  · split
    · rw [if_pos (by omega)]
    · rw [if_neg (by omega)]
  · rw [if_neg (by omega)]
theorem dbl_X : dbl X = X * X := ext fun n => by
  show (if n % 2 = 0 then (if n / 2 = 1 then (1 : Rat) else 0) else 0) = _
  cases n with
  | zero => rw [X_mul0]; rfl
  | succ n =>
    rw [X_mul]
    show _ = if n = 1 then (1 : Rat) else 0
    split
    · split
      · rw [if_pos (by omega)]
      · rw [if_neg (by omega)]
    · rw [if_neg (by omega)]
theorem dbl_one : dbl 1 = 1 := dbl_C 1
end PS
/-! ### echoes -/
open PS
/-- the echo of panes with a wall behind, or none -/
def Ech (w : Rat) : List Rat → PS
  | [] => C w
  | p :: ps => div (C p + X * Ech w ps) (1 + C p * (X * Ech w ps))
theorem ech_den (p : Rat) (F : PS) : (1 + C p * (X * F)).c 0 = 1 := by
  rw [add_c, C_mul, X_mul0]
  show (if 0 = 0 then ((1 : Nat) : Rat) else 0) + p * 0 = 1
  rw [if_pos rfl]
  grind
theorem ech_eq (w p : Rat) (ps : List Rat) : Ech w (p :: ps) * (1 + C p * (X * Ech w ps)) = C p + X * Ech w ps := div_mul (by rw [ech_den]; decide)
end Dn


/-! Ps3: waves on the way, beat by beat; the echo of waves. -/
namespace Dn
open PS
/-- what goes on between: A from the left, O what leaves to the left -/
inductive Sys (w : Rat) : List Rat → PS → PS → Prop
  | nil {A : PS} : Sys w [] A (C w * A)
  | cons {p : Rat} {ps : List Rat} {A O' : PS} (B : PS) : B = X * O' → Sys w ps (X * ((1 + C p) * A - C p * B)) O' → Sys w (p :: ps) A (C p * A + (1 - C p) * B)
theorem one_unit {f : PS} : (1 + X * f).c 0 ≠ 0 := by
  rw [add_c, X_mul0]
  show (if 0 = 0 then ((1 : Nat) : Rat) else 0) + 0 ≠ 0
  rw [if_pos rfl, Rat.add_zero]
  decide +kernel
theorem sys_echo {w : Rat} {ps : List Rat} {A O : PS} (h : Sys w ps A O) : O = dbl (Ech w ps) * A := by
  induction h with
  | nil => unfold Ech; rw [dbl_C]
  | @cons p ps A O' B hB h ih =>
    have e := congrArg dbl (ech_eq w p ps)
    simp only [dbl_mul, dbl_add, dbl_C, dbl_X, dbl_one] at e
    generalize dbl (Ech w ps) = F at *
    generalize dbl (Ech w (p :: ps)) = G at *
    refine cancel (b := 1 + X * (X * (C p * F))) one_unit ?_
    have h1 : B * (1 + X * (X * (C p * F))) = X * X * F * (1 + C p) * A := by grind
    grind
/-- the pane at a place -/
abbrev pn (ps : List Rat) (i : Nat) : Rat := ps.getD i 0
abbrev WS := List (Rat × Rat)
/-- what stands around the panes: what comes from the left, what is on the way, what comes from the right -/
def smm (w : Rat) (ways : WS) (a b : Rat) : WS := (a, 0) :: ways ++ if w = 0 then [(0, b)] else []
def lef (ps : List Rat) (S : WS) (i : Nat) : Rat := pn ps i * (S.getD i (0, 0)).1 + (1 - pn ps i) * (S.getD (i + 1) (0, 0)).2
def rig (ps : List Rat) (S : WS) (i : Nat) : Rat := (1 + pn ps i) * (S.getD i (0, 0)).1 - pn ps i * (S.getD (i + 1) (0, 0)).2
def lefW (w : Rat) (ps : List Rat) (S : WS) (i : Nat) : Rat := if i < ps.length then lef ps S i else w * (S.getD i (0, 0)).1
def rooms_n (w : Rat) (ps : List Rat) : Nat := ps.length - if w = 0 then 1 else 0
def wayN (w : Rat) (ps : List Rat) (S : WS) : WS := (List.range (rooms_n w ps)).map fun k => (rig ps S k, lefW w ps S (k + 1))
/-- the ways behind so many beats -/
def wayT (w : Rat) (ps : List Rat) (cl cr : Nat → Rat) : Nat → WS
  | 0 => List.replicate (rooms_n w ps) (0, 0)
  | t + 1 => wayN w ps (smm w (wayT w ps cl cr t) (cl t) (cr t))
theorem wayT_len (w : Rat) (ps : List Rat) (cl cr : Nat → Rat) (t : Nat) : (wayT w ps cl cr t).length = rooms_n w ps := by
  cases t with
  | zero => exact List.length_replicate
  | succ t => show ((List.range _).map _).length = _; rw [List.length_map, List.length_range]
abbrev smT (w : Rat) (ps : List Rat) (cl cr : Nat → Rat) (t : Nat) : WS := smm w (wayT w ps cl cr t) (cl t) (cr t)
def hearL (w : Rat) (ps : List Rat) (cl cr : Nat → Rat) (t : Nat) : Rat := match ps with
  | [] => if w = 0 then cr t else w * cl t
  | _ :: _ => lef ps (smT w ps cl cr t) 0
def hearR (w : Rat) (ps : List Rat) (cl cr : Nat → Rat) (t : Nat) : Rat := match ps with
  | [] => if w = 0 then cl t else 0
  | _ :: _ => if w = 0 then rig ps (smT w ps cl cr t) (ps.length - 1) else 0
section
variable (w : Rat) (ps : List Rat) (cl cr : Nat → Rat)
/-- as series: what comes to a place from the left, to a pane from the right -/
def sA (i : Nat) : PS := ⟨fun t => ((smT w ps cl cr t).getD i (0, 0)).1⟩
def sB (i : Nat) : PS := ⟨fun t => ((smT w ps cl cr t).getD (i + 1) (0, 0)).2⟩
variable {w ps cl cr}
theorem sA_0 : sA w ps cl cr 0 = ⟨cl⟩ := rfl
theorem smT_in {t i : Nat} (h : i < rooms_n w ps) : (smT w ps cl cr t).getD (i + 1) (0, 0) = (wayT w ps cl cr t).getD i (0, 0) := by
  show (((cl t, 0) :: wayT w ps cl cr t ++ _).getD (i + 1) (0, 0)) = _
  rw [List.getD_eq_getElem?_getD, List.getD_eq_getElem?_getD, List.cons_append, List.getElem?_cons_succ, List.getElem?_append_left (by rw [wayT_len]; exact h)]
theorem way_0 {i : Nat} : (wayT w ps cl cr 0).getD i (0, 0) = (0, 0) := by
  show (List.replicate _ _).getD i _ = _
  rw [List.getD_eq_getElem?_getD, List.getElem?_replicate]
  split <;> rfl
theorem way_s {t i : Nat} (h : i < rooms_n w ps) : (wayT w ps cl cr (t + 1)).getD i (0, 0) = (rig ps (smT w ps cl cr t) i, lefW w ps (smT w ps cl cr t) (i + 1)) := by
  show ((List.range _).map _).getD i _ = _
  rw [List.getD_eq_getElem?_getD, List.getElem?_map, List.getElem?_range h]
  rfl
theorem sA_s {i : Nat} (h : i < rooms_n w ps) : sA w ps cl cr (i + 1) = X * ((1 + C (pn ps i)) * sA w ps cl cr i - C (pn ps i) * sB w ps cl cr i) := ext fun t => by
  show ((smT w ps cl cr t).getD (i + 1) (0, 0)).1 = _
  rw [smT_in h]
  cases t with
  | zero => rw [X_mul0, way_0]
  | succ t =>
    rw [X_mul, way_s h, sub_c, C_mul, show (1 + C (pn ps i)) * sA w ps cl cr i = sA w ps cl cr i + C (pn ps i) * sA w ps cl cr i by grind, add_c, C_mul]
    show (1 + pn ps i) * _ - _ = _ + _ - _
    grind [sA, sB]
theorem sB_s {i : Nat} (h : i < rooms_n w ps) : sB w ps cl cr i = X * (⟨fun t => lefW w ps (smT w ps cl cr t) (i + 1)⟩ : PS) := ext fun t => by
  show ((smT w ps cl cr t).getD (i + 1) (0, 0)).2 = _
  rw [smT_in h]
  cases t with
  | zero => rw [X_mul0, way_0]
  | succ t => rw [X_mul, way_s h]
theorem lef_ps {i : Nat} (h : i < ps.length) : (⟨fun t => lefW w ps (smT w ps cl cr t) i⟩ : PS) = C (pn ps i) * sA w ps cl cr i + (1 - C (pn ps i)) * sB w ps cl cr i := ext fun t => by
  show (if i < ps.length then _ else _) = _
  rw [if_pos h, add_c, C_mul, show (1 - C (pn ps i)) * sB w ps cl cr i = sB w ps cl cr i - C (pn ps i) * sB w ps cl cr i by grind, sub_c, C_mul]
  show _ * _ + (1 - _) * _ = _ + (_ - _)
  grind [sA, sB, lef]
theorem sys_of (hr : cr = fun _ => 0) : ∀ (k i : Nat), ps.length - i = k → i < ps.length → Sys w (ps.drop i) (sA w ps cl cr i) (⟨fun t => lefW w ps (smT w ps cl cr t) i⟩ : PS)
  | 0, i, h1, h2 => by omega
  | k + 1, i, h1, h2 => by
    rw [lef_ps h2, List.drop_eq_getElem_cons h2]
    have e : ps[i] = pn ps i := by rw [pn, List.getD_eq_getElem?_getD, List.getElem?_eq_getElem h2]; rfl
    rw [e]
    by_cases hl : i + 1 < ps.length
    · have hi : i < rooms_n w ps := by unfold rooms_n; split <;> omega
      refine .cons _ (sB_s hi) ?_
      rw [← sA_s hi]
      exact sys_of hr k (i + 1) (by omega) hl
    · rw [List.drop_eq_nil_of_le (by omega)]
      by_cases hw : w = 0
      · refine .cons (O' := C w * (X * ((1 + C (pn ps i)) * sA w ps cl cr i - C (pn ps i) * sB w ps cl cr i))) _ (ext fun t => ?_) .nil
        rw [hw]
        have z : X * (C 0 * (X * ((1 + C (pn ps i)) * sA 0 ps cl cr i - C (pn ps i) * sB 0 ps cl cr i))) = 0 := by
          rw [show C 0 = (0 : PS) from rfl]
          grind
        rw [z, zero_c]
        show ((smT 0 ps cl cr t).getD (i + 1) (0, 0)).2 = 0
        have : smT 0 ps cl cr t = (cl t, 0) :: wayT 0 ps cl cr t ++ [(0, cr t)] := rfl
        rw [this, List.cons_append, List.getD_eq_getElem?_getD, List.getElem?_cons_succ, List.getElem?_append_right (by rw [wayT_len]; unfold rooms_n; rw [if_pos rfl]; omega), wayT_len]
        have : i - rooms_n 0 ps = 0 := by unfold rooms_n; rw [if_pos rfl]; omega
        rw [this, hr]
        rfl
      · have hi : i < rooms_n w ps := by unfold rooms_n; rw [if_neg hw]; omega
        refine .cons _ (sB_s hi) ?_
        rw [← sA_s hi]
        have : (⟨fun t => lefW w ps (smT w ps cl cr t) (i + 1)⟩ : PS) = C w * sA w ps cl cr (i + 1) := ext fun t => by
          rw [C_mul]
          show (if i + 1 < ps.length then _ else _) = _
          rw [if_neg hl]
          rfl
        rw [this]
        exact .nil
/-- what is heard on the left of cries on the left -/
theorem hear_echo (cl : Nat → Rat) : (⟨hearL w ps cl (fun _ => 0)⟩ : PS) = dbl (Ech w ps) * ⟨cl⟩ := by
  cases ps with
  | nil =>
    unfold Ech
    rw [dbl_C]
    ext t
    rw [C_mul]
    show (if w = 0 then 0 else w * cl t) = w * cl t
    split
    · rename_i h; rw [h]; grind
    · rfl
  | cons p ps =>
    have h := sys_echo (sys_of (w := w) (ps := p :: ps) (cl := cl) (cr := fun _ => 0) rfl (ps.length + 1) 0 rfl (by simp))
    rw [sA_0, List.drop_zero] at h
    rw [← h]
    ext t
    show lef (p :: ps) (smT w (p :: ps) cl (fun _ => 0) t) 0 = lefW w (p :: ps) (smT w (p :: ps) cl (fun _ => 0) t) 0
    unfold lefW
    rw [if_pos (by simp)]
end
end Dn


/-! Sz: sizes by a common bottom. -/
namespace Dn
/-- a common bottom of all whole numbers to so many -/
def lcmTo (n : Nat) : Nat := (List.range n).foldl (fun a i => Nat.lcm a (i + 1)) 1
/-- E is a common bottom of all to k, of e bits -/
structure Bot (E k e : Nat) : Prop where
  pos : 0 < E
  lt : E < 2 ^ e
  dvd : ∀ n, 0 < n → n ≤ k → n ∣ E
theorem bot_of {n e : Nat} (h1 : decide (0 < lcmTo n) = true) (h2 : decide (lcmTo n < 2 ^ e) = true) (h3 : (List.range n).all (fun i => decide ((i + 1) ∣ lcmTo n)) = true) : Bot (lcmTo n) n e := by
  refine ⟨of_decide_eq_true h1, of_decide_eq_true h2, fun m h0 hm => ?_⟩
  have := List.all_eq_true.mp h3 (m - 1) (List.mem_range.mpr (by omega))
  have := of_decide_eq_true this
  rwa [show m - 1 + 1 = m by omega] at this
theorem bot63 : Bot (lcmTo 63) 63 90 := bot_of (by decide +kernel) (by decide +kernel) (by decide +kernel)
/-- E ^ m times it is whole, and it lies within 2 ^ b -/
class Lw (E : Nat) (m b : outParam Nat) (q : Rat) : Prop where
  wh : ∃ z : Int, q * (E : Rat) ^ m = (z : Rat)
  up : q ≤ (2 : Rat) ^ b
  lo : -(2 : Rat) ^ b ≤ q
variable {E : Nat}
theorem pow_le {b c : Nat} (h : b ≤ c) : (2 : Rat) ^ b ≤ (2 : Rat) ^ c := by
  have : (2 : Nat) ^ b ≤ 2 ^ c := Nat.pow_le_pow_right (by decide) h
  exact_mod_cast this
theorem pow_pos (b : Nat) : (0 : Rat) < (2 : Rat) ^ b := by
  have : 0 < (2 : Nat) ^ b := Nat.two_pow_pos b
  exact_mod_cast this
theorem Lw.le {m b m' b' : Nat} {q : Rat} (h : Lw E m b q) (hm : m ≤ m') (hb : b ≤ b') : Lw E m' b' q := by
  refine ⟨?_, Rat.le_trans h.up (pow_le hb), ?_⟩
  · obtain ⟨z, hz⟩ := h.wh
    refine ⟨z * (E ^ (m' - m) : Nat), ?_⟩
    rw [show (E : Rat) ^ m' = E ^ m * E ^ (m' - m) by rw [← Lean.Grind.Semiring.pow_add, show m + (m' - m) = m' by omega], ← Rat.mul_assoc, hz]
    push_cast
    rfl
  · have := pow_le hb
    have := h.lo
    grind
instance Lw.neg {m b : Nat} {q : Rat} [h : Lw E m b q] : Lw E m b (-q) := by
  obtain ⟨z, hz⟩ := h.wh
  have h1 := h.up
  have h2 := h.lo
  refine ⟨⟨-z, ?_⟩, by grind, by grind⟩
  rw [Rat.neg_mul, hz, Rat.intCast_neg]
theorem Lw.add' {m b : Nat} {p q : Rat} (hp : Lw E m b p) (hq : Lw E m b q) : Lw E m (b + 1) (p + q) := by
  obtain ⟨z, hz⟩ := hp.wh
  obtain ⟨y, hy⟩ := hq.wh
  have h1 := hp.up; have h2 := hp.lo; have h3 := hq.up; have h4 := hq.lo
  have e : (2 : Rat) ^ (b + 1) = 2 ^ b * 2 := Rat.pow_succ ..
  refine ⟨⟨z + y, ?_⟩, by grind, by grind⟩
  rw [Rat.add_mul, hz, hy, Rat.intCast_add]
instance Lw.add {m b n c : Nat} {p q : Rat} [hp : Lw E m b p] [hq : Lw E n c q] : Lw E (max m n) (max b c + 1) (p + q) :=
  (hp.le (Nat.le_max_left ..) (Nat.le_max_left ..)).add' (hq.le (Nat.le_max_right ..) (Nat.le_max_right ..))
instance Lw.sub {m b n c : Nat} {p q : Rat} [hp : Lw E m b p] [hq : Lw E n c q] : Lw E (max m n) (max b c + 1) (p - q) := by
  rw [Rat.sub_eq_add_neg]
  exact Lw.add
instance Lw.mul {m b n c : Nat} {p q : Rat} [hp : Lw E m b p] [hq : Lw E n c q] : Lw E (m + n) (b + c) (p * q) := by
  obtain ⟨z, hz⟩ := hp.wh
  obtain ⟨y, hy⟩ := hq.wh
  have h1 := hp.up; have h2 := hp.lo; have h3 := hq.up; have h4 := hq.lo
  have e : (2 : Rat) ^ (b + c) = 2 ^ b * 2 ^ c := Lean.Grind.Semiring.pow_add ..
  have k1 : p * q ≤ 2 ^ b * 2 ^ c ∧ -(2 ^ b * 2 ^ c) ≤ p * q := by
    have a1 : (0 : Rat) ≤ (2 ^ b - p) * (2 ^ c - q) := Rat.mul_nonneg (by grind) (by grind)
    have a2 : (0 : Rat) ≤ (2 ^ b + p) * (2 ^ c + q) := Rat.mul_nonneg (by grind) (by grind)
    have a3 : (0 : Rat) ≤ (2 ^ b - p) * (2 ^ c + q) := Rat.mul_nonneg (by grind) (by grind)
    have a4 : (0 : Rat) ≤ (2 ^ b + p) * (2 ^ c - q) := Rat.mul_nonneg (by grind) (by grind)
    constructor <;> grind
  refine ⟨⟨z * y, ?_⟩, by rw [e]; exact k1.1, by rw [e]; exact k1.2⟩
  rw [Lean.Grind.Semiring.pow_add, Rat.intCast_mul, ← hz, ← hy]
  grind
theorem Lw.int {b : Nat} {z : Int} (h : z.natAbs ≤ 2 ^ b) : Lw E 0 b (z : Rat) := by
  refine ⟨⟨z, by rw [Rat.pow_zero, Rat.mul_one]⟩, ?_, ?_⟩
  · have : z ≤ ((2 ^ b : Nat) : Int) := by omega
    have : (z : Rat) ≤ (((2 ^ b : Nat) : Int) : Rat) := by exact_mod_cast this
    exact_mod_cast this
  · have : -((2 ^ b : Nat) : Int) ≤ z := by omega
    have h2 : ((-((2 ^ b : Nat) : Int) : Int) : Rat) ≤ (z : Rat) := Rat.intCast_le_intCast.mpr this
    have h3 : (((2 ^ b : Nat) : Int) : Rat) = (2 : Rat) ^ b := by push_cast; rfl
    rw [Rat.intCast_neg, h3] at h2
    exact h2
instance Lw.zero : Lw E 0 0 (0 : Rat) := ⟨⟨0, by simp⟩, by decide +kernel, by decide +kernel⟩
instance Lw.one : Lw E 0 0 (1 : Rat) := ⟨⟨1, by simp⟩, by decide +kernel, by decide +kernel⟩
/-- a number over a small one -/
theorem Lw.frac {k e b : Nat} (hE : Bot E k e) {t u : Int} (h0 : u ≠ 0) (hu : u.natAbs ≤ k) (ht : t.natAbs ≤ 2 ^ b) : Lw E 1 b ((t : Rat) / (u : Rat)) := by
  obtain ⟨g, hk⟩ := hE.dvd u.natAbs (by omega) hu
  have hu0 : (u : Rat) ≠ 0 := by exact_mod_cast h0
  have e : (t : Rat) / (u : Rat) * (E : Rat) ^ 1 = ((t * u.sign * g : Int) : Rat) := by
    rw [Rat.pow_one, hk]
    push_cast
    have : ((u.natAbs : Nat) : Rat) = (u : Rat) * (u.sign : Rat) := by
      have : ((u.natAbs : Nat) : Int) = u * u.sign := by
        have := Int.sign_mul_natAbs u
        rcases Int.lt_trichotomy u 0 with h | h | h
        · rw [Int.sign_eq_neg_one_of_neg h] at this ⊢; omega
        · omega
        · rw [Int.sign_eq_one_of_pos h] at this ⊢; omega
      exact_mod_cast congrArg (fun z : Int => (z : Rat)) this
    rw [this]
    grind
  have l := Lw.int (E := E) ht
  have l1 := l.up
  have l2 := l.lo
  -- |t / u| ≤ |t|
  have hp := pow_pos b
  have k1 : (t : Rat) / u ≤ 2 ^ b ∧ -(2 ^ b) ≤ (t : Rat) / u := by
    rcases Int.lt_trichotomy u 0 with h | h | h
    · have h1 : (u : Rat) ≤ ((-1 : Int) : Rat) := Rat.intCast_le_intCast.mpr (by omega)
      have h1 : (u : Rat) ≤ -1 := h1
      have e : (t : Rat) / u = (-t) / (-u) := by grind
      have h2 : (0 : Rat) < -u := by grind
      have a1 : 0 ≤ (2 : Rat) ^ b * (-u - 1) := Rat.mul_nonneg (by grind) (by grind)
      rw [e]
      constructor
      · rw [← Rat.not_lt, Rat.lt_div_iff h2]; grind
      · rw [← Rat.not_lt, Rat.div_lt_iff h2]; grind
    · omega
    · have h1 : ((1 : Int) : Rat) ≤ u := Rat.intCast_le_intCast.mpr (by omega)
      have h1 : (1 : Rat) ≤ u := h1
      have h2 : (0 : Rat) < u := by grind
      have a1 : 0 ≤ (2 : Rat) ^ b * (u - 1) := Rat.mul_nonneg (by grind) (by grind)
      constructor
      · rw [← Rat.not_lt, Rat.lt_div_iff h2]; grind
      · rw [← Rat.not_lt, Rat.div_lt_iff h2]; grind
  exact ⟨⟨_, e⟩, k1.1, k1.2⟩
theorem Lw.sm {k e' m b : Nat} (hE0 : Bot E k e') {q : Rat} (h : Lw E m b q) : Sm (e' * m + b + 1) q := by
  obtain ⟨z, hz⟩ := h.wh
  have hE : ((E : Rat) ^ m) = ((E ^ m : Nat) : Rat) := by push_cast; rfl
  have hd : q.den ∣ E ^ m := by
    have h1 : q.num * ((E ^ m : Nat) : Int) = z * q.den := by
      have h2 : (q.num : Rat) * ((E ^ m : Nat) : Rat) = (z : Rat) * (q.den : Rat) := by
        rw [← hz, hE]
        have := q_self q
        have d0 : ((q.den : Int) : Rat) ≠ 0 := by exact_mod_cast den_ne q
        have d1 : ((q.den : Int) : Rat) = (q.den : Rat) := by exact_mod_cast rfl
        rw [d1] at this d0
        grind
      exact_mod_cast h2
    have h3 : (q.den : Int) ∣ q.num * ((E ^ m : Nat) : Int) := ⟨z, by rw [h1, Int.mul_comm]⟩
    have h4 : q.den ∣ q.num.natAbs * E ^ m := by
      have := Int.natAbs_dvd_natAbs.mpr h3
      rwa [Int.natAbs_mul, Int.natAbs_natCast, Int.natAbs_natCast] at this
    exact Nat.Coprime.dvd_of_dvd_mul_left (Nat.Coprime.symm q.reduced) h4
  have hpos : 0 < E ^ m := Nat.pow_pos hE0.pos
  have hle := Nat.le_of_dvd hpos hd
  have hEm : E ^ m ≤ 2 ^ (e' * m) := by
    rw [Nat.pow_mul]
    exact Nat.pow_le_pow_left (Nat.le_of_lt hE0.lt) m
  constructor
  · have h1 := h.up
    have h2 := h.lo
    have hd0 : (0 : Rat) < (q.den : Rat) := by exact_mod_cast q.den_pos
    have e : (q.num : Rat) = q * (q.den : Rat) := by
      have := q_self q
      have d1 : ((q.den : Int) : Rat) = (q.den : Rat) := by exact_mod_cast rfl
      rw [d1] at this
      generalize (q.den : Rat) = d at *
      generalize (q.num : Rat) = n at *
      clear hz hE hd hpos hle hEm h1 h2 h
      grind
    have a1 : (q.num : Rat) ≤ ((2 ^ b * q.den : Nat) : Rat) := by
      push_cast
      rw [e]
      exact Rat.mul_le_mul_of_nonneg_right h1 (by grind)
    have a2 : -((2 ^ b * q.den : Nat) : Rat) ≤ (q.num : Rat) := by
      push_cast
      rw [e]
      have := Rat.mul_le_mul_of_nonneg_right h2 (show (0 : Rat) ≤ (q.den : Rat) by grind)
      grind
    have b1 : q.num ≤ ((2 ^ b * q.den : Nat) : Int) := by exact_mod_cast a1
    have b2 : -((2 ^ b * q.den : Nat) : Int) ≤ q.num := by
      rw [← Rat.intCast_le_intCast, Rat.intCast_neg]
      exact a2
    have b3 : 2 ^ b * q.den ≤ 2 ^ b * 2 ^ (e' * m) := Nat.mul_le_mul_left _ (Nat.le_trans hle hEm)
    rw [← Nat.pow_add] at b3
    have b4 : 2 ^ (b + e' * m) < 2 ^ (e' * m + b + 1) := Nat.pow_lt_pow_right (by decide) (by omega)
    omega
  · have b4 : 2 ^ (e' * m) < 2 ^ (e' * m + b + 1) := Nat.pow_lt_pow_right (by decide) (by omega)
    omega
end Dn


/-! Ps4: sizes of echoes' numbers and of waves. -/
namespace Dn
open PS
variable {E : Nat}
theorem Lw.of_eq {m b m' b' : Nat} {q : Rat} (h : Lw E m b q) (hm : m ≤ m' := by omega) (hb : b ≤ b' := by omega) : Lw E m' b' q := h.le hm hb
/-- graded: number k of level 2 k + 1, within 2 ^ (c k) -/
def Gra (E c : Nat) (F : PS) : Prop := ∀ k, Lw E (2 * k + 1) (c * k) (F.c k)
theorem gra_C {w : Rat} (h : Lw E 1 0 w) (c : Nat) : Gra E c (C w) := fun k => by
  rw [C_c]
  split
  · rename_i h0; subst h0; exact h
  · exact Lw.zero.le (Nat.zero_le _) (Nat.zero_le _)
theorem one_c (k : Nat) : (1 : PS).c k = if k = 0 then 1 else 0 := by
  show (if k = 0 then ((1 : Nat) : Rat) else 0) = _
  split
  · exact_mod_cast rfl
  · rfl
/-- the bottom's numbers -/
theorem ech_b (p : Rat) (F : PS) (k : Nat) : (1 + C p * (X * F)).c (k + 1) = p * F.c k := by
  rw [add_c, C_mul, X_mul, one_c, if_neg (by omega), Rat.zero_add]
theorem ech_a (p : Rat) (F : PS) (k : Nat) : (C p + X * F).c (k + 1) = F.c k := by
  rw [add_c, X_mul, C_c, if_neg (by omega), Rat.zero_add]
/-- what is left of the top, behind p turns -/
def rest (A B : PS) (p j : Nat) : Rat := A.c j - sm p fun i => (div A B).c i * B.c (j - i)
theorem rest_div (A B : PS) (k : Nat) : (div A B).c k = rest A B k k / B.c 0 := div_c A B k
section
variable {c : Nat} {p : Rat} {F : PS}
theorem gra_step (hp : Lw E 1 0 p) (hc : 1 ≤ c) (hF : Gra E c F) : ∀ k, Lw E (2 * k + 1) ((c + 2) * k) ((div (C p + X * F) (1 + C p * (X * F))).c k) ∧
    ∀ m, m ≤ k → Lw E (2 * k + 1) ((c + 2) * k) (rest (C p + X * F) (1 + C p * (X * F)) m k) := by
  intro k
  induction k using Nat.strongRecOn with
  | _ k ih =>
    have hr : ∀ m, m ≤ k → Lw E (2 * k + 1) ((c + 2) * k) (rest (C p + X * F) (1 + C p * (X * F)) m k) := by
      intro m hm
      cases k with
      | zero =>
        obtain rfl : m = 0 := by omega
        show Lw E 1 _ ((C p + X * F).c 0 - 0)
        have : (C p + X * F).c 0 - 0 = p := by rw [add_c, X_mul0, C_c, if_pos rfl]; grind
        rw [this]
        exact hp
      | succ k =>
        have hs : ∀ m, m ≤ k + 1 → Lw E (2 * (k + 1) + 1) (c * k + 2 * m) (sm m fun i => (div (C p + X * F) (1 + C p * (X * F))).c i * (1 + C p * (X * F)).c (k + 1 - i)) := by
          intro m
          induction m with
          | zero => intro _; exact Lw.zero.le (Nat.zero_le _) (Nat.zero_le _)
          | succ m im =>
            intro h1
            have f1 := (ih m (by omega)).1
            have f2 := hF (k - m)
            have : (1 + C p * (X * F)).c (k + 1 - m) = p * F.c (k - m) := by rw [show k + 1 - m = (k - m) + 1 by omega, ech_b]
            show Lw E _ _ (sm m _ + (div (C p + X * F) (1 + C p * (X * F))).c m * (1 + C p * (X * F)).c (k + 1 - m))
            rw [this]
            have g1 := im (by omega)
            have g2 : Lw E (2 * m + 1 + (1 + (2 * (k - m) + 1))) ((c + 2) * m + (0 + c * (k - m))) ((div (C p + X * F) (1 + C p * (X * F))).c m * (p * F.c (k - m))) := Lw.mul
            have e1 : (c + 2) * m + (0 + c * (k - m)) = c * k + 2 * m := by
              have : c * k = c * m + c * (k - m) := by rw [← Nat.mul_add]; congr 1; omega
              rw [Nat.add_mul]; omega
            refine (g1.add' (g2.le (m' := 2 * (k + 1) + 1) (b' := c * k + 2 * m) (by omega) (by omega))).of_eq
        have h1 := hs m hm
        have h2 := hF k
        show Lw E _ _ ((C p + X * F).c (k + 1) - _)
        rw [ech_a, Rat.sub_eq_add_neg]
        have h3 : Lw E (2 * (k + 1) + 1) (c * k + 2 * (k + 1)) (F.c k) := h2.of_eq
        have h4 : Lw E (2 * (k + 1) + 1) (c * k + 2 * (k + 1)) (-(sm m fun i => (div (C p + X * F) (1 + C p * (X * F))).c i * (1 + C p * (X * F)).c (k + 1 - i))) := (h1.of_eq : Lw E (2 * (k + 1) + 1) (c * k + 2 * (k + 1)) _).neg
        have e : (c + 2) * (k + 1) = c * k + 2 * (k + 1) + c := by rw [Nat.add_mul, Nat.mul_add c]; omega
        exact (h3.add' h4).of_eq
    refine ⟨?_, hr⟩
    rw [rest_div, ech_den]
    have := hr k (Nat.le_refl _)
    rwa [show rest (C p + X * F) (1 + C p * (X * F)) k k / 1 = rest (C p + X * F) (1 + C p * (X * F)) k k by grind]
end
theorem gra_ech {w : Rat} (hw : Lw E 1 0 w) : ∀ {ps : List Rat}, (∀ p ∈ ps, Lw E 1 0 p) → Gra E (2 * ps.length + 1) (Ech w ps)
  | [], _ => gra_C hw _
  | p :: ps, h => fun k => ((gra_step (h p List.mem_cons_self) (by omega) (gra_ech hw fun q hq => h q (List.mem_cons_of_mem _ hq))) k).1.of_eq (by omega) (by
    rw [List.length_cons]
    exact Nat.le_refl _)
/-- sizes within which a quotient may be told -/
structure QS (many : Nat) (A B : PS) : Prop where
  fS : ∀ i, i < many → Sm 2660 ((div A B).c i)
  fB : ∀ i, i < many → Sm 2660 (B.c i)
  fR : ∀ m j, m ≤ j → j < many → Sm 2660 (rest A B m j)
theorem Sm.le' {n m : Nat} {q : Rat} (h : Sm n q) (l : n ≤ m := by omega) : Sm m q := h.le l
theorem qs_ech {k e : Nat} (hE : Bot E k e) {w : Rat} (hw : Lw E 1 0 w) {p : Rat} {ps : List Rat} (hp : Lw E 1 0 p) (h : ∀ p ∈ ps, Lw E 1 0 p) {many : Nat} (hm : e * (2 * many - 1) + (2 * ps.length + 3) * many + 1 ≤ 2660) : QS many (C p + X * Ech w ps) (1 + C p * (X * Ech w ps)) := by
  have g := gra_ech hw h
  have gs := gra_step hp (by omega) g
  have le : ∀ i, i < many → e * (2 * i + 1) + ((2 * ps.length + 1 + 2) * i) + 1 ≤ 2660 := fun i hi => by
    have h1 : e * (2 * i + 1) ≤ e * (2 * many - 1) := Nat.mul_le_mul_left _ (by omega)
    have h2 : (2 * ps.length + 3) * i ≤ (2 * ps.length + 3) * many := Nat.mul_le_mul_left _ (by omega)
    have h3 : 2 * ps.length + 1 + 2 = 2 * ps.length + 3 := by omega
    rw [h3]
    omega
  refine ⟨fun i hi => ((gs i).1.sm hE).le (le i hi), fun i hi => ?_, fun m j h1 h2 => (((gs j).2 m h1).sm hE).le (le j h2)⟩
  cases i with
  | zero => rw [ech_den]; exact Sm.one.le'
  | succ i =>
    rw [ech_b]
    have := g i
    have l : Lw E (2 * (i + 1) + 1) ((2 * ps.length + 1 + 2) * (i + 1)) (p * (Ech w ps).c i) := (Lw.mul : Lw E (1 + (2 * i + 1)) (0 + (2 * ps.length + 1) * i) _).of_eq (by omega) (by
      have : (2 * ps.length + 1) * i ≤ (2 * ps.length + 1 + 2) * (i + 1) := Nat.mul_le_mul (by omega) (by omega)
      omega)
    exact (l.sm hE).le (le (i + 1) hi)
/-! ### waves -/
section
variable {w : Rat} {ps : List Rat} {cl cr : Nat → Rat} {m b : Nat}
def LwP (E m b : Nat) (x : Rat × Rat) : Prop := Lw E m b x.1 ∧ Lw E m b x.2
theorem LwP.le {m b m' b' : Nat} {x : Rat × Rat} (h : LwP E m b x) (h1 : m ≤ m') (h2 : b ≤ b') : LwP E m' b' x := ⟨h.1.le h1 h2, h.2.le h1 h2⟩
theorem lwp_getD {S : WS} (h : ∀ x ∈ S, LwP E m b x) (i : Nat) : LwP E m b (S.getD i (0, 0)) := by
  rw [List.getD_eq_getElem?_getD]
  cases e : S[i]? with
  | none => exact ⟨Lw.zero.le (Nat.zero_le _) (Nat.zero_le _), Lw.zero.le (Nat.zero_le _) (Nat.zero_le _)⟩
  | some x => exact h x (List.mem_of_getElem? e)
theorem lw_pn (h : ∀ p ∈ ps, Lw E 1 0 p) (i : Nat) : Lw E 1 0 (pn ps i) := by
  unfold pn
  rw [List.getD_eq_getElem?_getD]
  cases e : ps[i]? with
  | none => exact Lw.zero.le (Nat.zero_le _) (Nat.zero_le _)
  | some x => exact h x (List.mem_of_getElem? e)
theorem lw_lef (h : ∀ p ∈ ps, Lw E 1 0 p) {S : WS} (hS : ∀ x ∈ S, LwP E m b x) (i : Nat) : Lw E (m + 1) (b + 2) (lef ps S i) := by
  have := lw_pn h i
  have := (lwp_getD hS i).1
  have := (lwp_getD hS (i + 1)).2
  have l : Lw E (max (1 + m) (max 0 1 + m)) (max (0 + b) (max 0 0 + 1 + b) + 1) (lef ps S i) := Lw.add
  exact l.of_eq
theorem lw_rig (h : ∀ p ∈ ps, Lw E 1 0 p) {S : WS} (hS : ∀ x ∈ S, LwP E m b x) (i : Nat) : Lw E (m + 1) (b + 2) (rig ps S i) := by
  have := lw_pn h i
  have := (lwp_getD hS i).1
  have := (lwp_getD hS (i + 1)).2
  have l : Lw E (max (max 0 1 + m) (1 + m)) (max (max 0 0 + 1 + b) (0 + b) + 1) (rig ps S i) := Lw.sub
  exact l.of_eq
theorem lw_lefW (hw : Lw E 1 0 w) (h : ∀ p ∈ ps, Lw E 1 0 p) {S : WS} (hS : ∀ x ∈ S, LwP E m b x) (i : Nat) : Lw E (m + 1) (b + 2) (lefW w ps S i) := by
  unfold lefW
  split
  · exact lw_lef h hS i
  · have := (lwp_getD hS i).1
    exact (Lw.mul : Lw E (1 + m) (0 + b) _).of_eq
theorem lwp_smm {ways : WS} {x y : Rat} (h : ∀ x ∈ ways, LwP E m b x) (hx : Lw E m b x) (hy : Lw E m b y) : ∀ z ∈ smm w ways x y, LwP E m b z := by
  have z0 : Lw E m b 0 := Lw.zero.le (Nat.zero_le _) (Nat.zero_le _)
  intro z hz
  unfold smm at hz
  rcases List.mem_append.mp hz with hz | hz
  · rcases List.mem_cons.mp hz with rfl | hz
    · exact ⟨hx, z0⟩
    · exact h z hz
  · split at hz
    · simp only [List.mem_cons, List.not_mem_nil, or_false] at hz
      subst hz
      exact ⟨z0, hy⟩
    · cases hz
theorem lwp_wayT (hw : Lw E 1 0 w) (h : ∀ p ∈ ps, Lw E 1 0 p) (hl : ∀ t, Lw E m b (cl t)) (hr : ∀ t, Lw E m b (cr t)) : ∀ t, ∀ x ∈ wayT w ps cl cr t, LwP E (m + t) (b + 2 * t) x
  | 0 => fun x hx => by
    obtain ⟨_, rfl⟩ := List.mem_replicate.mp hx
    exact ⟨Lw.zero.le (Nat.zero_le _) (Nat.zero_le _), Lw.zero.le (Nat.zero_le _) (Nat.zero_le _)⟩
  | t + 1 => fun x hx => by
    obtain ⟨i, _, rfl⟩ := List.mem_map.mp hx
    have hS := lwp_smm (w := w) (lwp_wayT hw h hl hr t) ((hl t).of_eq : Lw E (m + t) (b + 2 * t) _) ((hr t).of_eq : Lw E (m + t) (b + 2 * t) _)
    exact ⟨(lw_rig h hS i).of_eq, (lw_lefW hw h hS (i + 1)).of_eq⟩
end
end Dn


/-! Sw1: lists, comprehensions and loops by functions. -/
namespace Dn
open PySem PySem.Spec PyProof.Rows L2 PS
/-! ### comprehensions that change nothing -/
theorem wipe_len (ρ : Rho) : ∀ vs, (wipeR ρ vs).length = ρ.length
  | [] => rfl
  | v :: vs => by show ((wipeR ρ vs).set v none).length = _; rw [List.length_set, wipe_len ρ vs]
theorem wipe_out (ρ : Rho) : ∀ (vs : List Nat) (i : Nat), i ∉ vs → (wipeR ρ vs)[i]? = ρ[i]?
  | [], i, _ => rfl
  | v :: vs, i, h => by
    show ((wipeR ρ vs).set v none)[i]? = _
    rw [List.getElem?_set_ne (fun e => h (by rw [← e]; exact List.mem_cons_self)), wipe_out ρ vs i fun e => h (List.mem_cons_of_mem _ e)]
theorem back_out (ρ r : Rho) : ∀ (vs : List Nat) (i : Nat), i ∉ vs → (backR ρ r vs)[i]? = r[i]?
  | [], i, _ => rfl
  | v :: vs, i, h => by
    show ((backR ρ r vs).set v _)[i]? = _
    rw [List.getElem?_set_ne (fun e => h (by rw [← e]; exact List.mem_cons_self)), back_out ρ r vs i fun e => h (List.mem_cons_of_mem _ e)]
theorem back_len (ρ r : Rho) : ∀ vs, (backR ρ r vs).length = r.length
  | [] => rfl
  | v :: vs => by show ((backR ρ r vs).set v _).length = _; rw [List.length_set, back_len ρ r vs]
theorem back_in (ρ r : Rho) (hl : r.length = ρ.length) : ∀ (vs : List Nat) (i : Nat), i ∈ vs → i < ρ.length → (backR ρ r vs)[i]? = ρ[i]?
  | [], i, h, _ => by cases h
  | v :: vs, i, h, hi => by
    show ((backR ρ r vs).set v _)[i]? = _
    by_cases e : v = i
    · subst e
      rw [List.getElem?_set_self (by rw [back_len]; omega), List.getElem?_eq_getElem hi]
      rfl
    · rw [List.getElem?_set_ne e]
      rcases List.mem_cons.mp h with h | h
      · exact absurd h.symm e
      · exact back_in ρ r hl vs i h hi
theorem back_wipe {ρ r : Rho} {vs : List Nat} (h : wipeR r vs = wipeR ρ vs) : backR ρ r vs = ρ := by
  have hl : r.length = ρ.length := by rw [← wipe_len r vs, h, wipe_len]
  refine List.ext_getElem? fun i => ?_
  by_cases hi : i < ρ.length
  · by_cases hv : i ∈ vs
    · exact back_in ρ r hl vs i hv hi
    · rw [back_out ρ r vs i hv, ← wipe_out r vs i hv, h, wipe_out ρ vs i hv]
  · rw [List.getElem?_eq_none (by rw [back_len]; omega), List.getElem?_eq_none (by omega)]
theorem lcD_pure {vs : List Nat} {tg : Tg} {tt : Den Bool} {te : Den D} {w : Rho} (p : D → Bool) (g : D → D) : ∀ (ds acc : List D) (ρ : Rho), wipeR ρ vs = w → acc.length + ds.length ≤ lim →
    (∀ d ∈ ds, ∃ r1, tg d w = some r1 ∧ wipeR r1 vs = w ∧ tt r1 = .ok (p d) r1 ∧ (p d = true → te r1 = .ok (g d) r1)) →
    ∃ r, lcD vs tg tt te ds acc ρ = .ok (acc ++ (ds.filter p).map g) r ∧ wipeR r vs = w
  | [], acc, ρ, hw, _, _ => ⟨ρ, by rw [List.filter_nil, List.map_nil, List.append_nil]; rfl, hw⟩
  | d :: ds, acc, ρ, hw, hl, h => by
    obtain ⟨r1, e1, e2, e3, e4⟩ := h d List.mem_cons_self
    rw [List.length_cons] at hl
    have e0 : lcD vs tg tt te (d :: ds) acc ρ = (match tg d (wipeR ρ vs) with
        | some r1 => match tt r1 with
          | .ok b r2 => if b = true then match te r2 with
            | .ok y r3 => if acc.length < lim then lcD vs tg tt te ds (acc ++ [y]) r3 else .stuck
            | _ => .stuck
            else lcD vs tg tt te ds acc r2
          | _ => .stuck
        | none => .stuck) := rfl
    rw [e0, hw, e1]
    show ∃ r, (match tt r1 with
          | .ok b r2 => if b = true then match te r2 with
            | .ok y r3 => if acc.length < lim then lcD vs tg tt te ds (acc ++ [y]) r3 else .stuck
            | _ => .stuck
            else lcD vs tg tt te ds acc r2
          | _ => .stuck) = _ ∧ _
    rw [e3]
    cases hp : p d with
    | false =>
      obtain ⟨r, f1, f2⟩ := lcD_pure (vs := vs) (tg := tg) (tt := tt) (te := te) p g ds acc r1 e2 (by omega) fun d' hd => h d' (List.mem_cons_of_mem _ hd)
      refine ⟨r, ?_, f2⟩
      rw [List.filter_cons_of_neg (by rw [hp]; decide)]
      exact f1
    | true =>
      obtain ⟨r, f1, f2⟩ := lcD_pure (vs := vs) (tg := tg) (tt := tt) (te := te) p g ds (acc ++ [g d]) r1 e2 (by rw [List.length_append]; simp; omega) fun d' hd => h d' (List.mem_cons_of_mem _ hd)
      refine ⟨r, ?_, f2⟩
      rw [List.filter_cons_of_pos hp, List.map_cons]
      show (if true = true then match te r1 with
            | .ok y r3 => if acc.length < lim then lcD vs tg tt te ds (acc ++ [y]) r3 else .stuck
            | _ => .stuck
            else lcD vs tg tt te ds acc r1) = _
      rw [if_pos rfl, e4 hp]
      show (if acc.length < lim then lcD vs tg tt te ds (acc ++ [g d]) r1 else .stuck) = _
      rw [if_pos (by omega), f1, List.append_assoc]
      rfl
theorem lc_filter {vs : List Nat} {fi : Den (List D)} {tg : Tg} {tt : Den Bool} {te : Den D} {ρ : Rho} {ds : List D} (p : D → Bool) (g : D → D) (hfi : fi ρ = .ok ds ρ) (hl : ds.length ≤ lim)
    (h : ∀ d ∈ ds, ∃ r1, tg d (wipeR ρ vs) = some r1 ∧ wipeR r1 vs = wipeR ρ vs ∧ tt r1 = .ok (p d) r1 ∧ (p d = true → te r1 = .ok (g d) r1)) : dLc vs fi tg tt te ρ = .ok (.list ((ds.filter p).map g)) ρ := by
  obtain ⟨r, e, hr⟩ := lcD_pure (vs := vs) (tg := tg) (tt := tt) (te := te) p g ds [] ρ rfl (by simpa using hl) h
  unfold dLc
  rw [hfi]
  show (lcD vs tg tt te ds [] ρ).bind _ = _
  rw [e]
  show R.ok _ _ = _
  rw [back_wipe hr]
  rfl
theorem lc_map {vs : List Nat} {fi : Den (List D)} {tg : Tg} {te : Den D} {ρ : Rho} {ds : List D} (g : D → D) (hfi : fi ρ = .ok ds ρ) (hl : ds.length ≤ lim)
    (h : ∀ d ∈ ds, ∃ r1, tg d (wipeR ρ vs) = some r1 ∧ wipeR r1 vs = wipeR ρ vs ∧ te r1 = .ok (g d) r1) : dLc vs fi tg dYes te ρ = .ok (.list (ds.map g)) ρ := by
  have := lc_filter (vs := vs) (tg := tg) (tt := dYes) (te := te) (fun _ => true) g hfi hl fun d hd => by
    obtain ⟨r1, e1, e2, e3⟩ := h d hd
    exact ⟨r1, e1, e2, rfl, fun _ => e3⟩
  rw [this, List.filter_eq_self.mpr (fun _ _ => rfl)]
/-- .. over the numbers below n -/
theorem lc_range {vs : List Nat} {fi : Den (List D)} {tg : Tg} {te : Den D} {ρ : Rho} {lo n : Nat} (g : Nat → D) (hfi : fi ρ = .ok (rangeD lo n) ρ) (hl : n ≤ lim)
    (h : ∀ i, i < n → ∃ r1, tg (.int ((lo + i : Nat) : Int)) (wipeR ρ vs) = some r1 ∧ wipeR r1 vs = wipeR ρ vs ∧ te r1 = .ok (g i) r1) : dLc vs fi tg dYes te ρ = .ok (.list ((List.range n).map g)) ρ := by
  have := lc_map (vs := vs) (tg := tg) (te := te) (fun d => match d with | .int i => g (i.toNat - lo) | _ => .none) hfi (by rw [rangeD_len]; exact hl) fun d hd => by
    obtain ⟨i, hi, rfl⟩ := List.mem_map.mp hd
    obtain ⟨r1, e1, e2, e3⟩ := h i (List.mem_range.mp hi)
    have e : ((lo : Int) + (i : Nat)) = ((lo + i : Nat) : Int) := by omega
    refine ⟨r1, by rw [e]; exact e1, e2, ?_⟩
    rw [e3]
    show _ = R.ok (g (((lo : Int) + (i : Nat)).toNat - lo)) r1
    rw [show ((lo : Int) + (i : Nat)).toNat - lo = i by omega]
  rw [this]
  unfold rangeD
  rw [List.map_map]
  congr 2
  refine List.map_congr_left fun i _ => ?_
  show g (((lo : Int) + (i : Nat)).toNat - lo) = _
  rw [show ((lo : Int) + (i : Nat)).toNat - lo = i by omega]
theorem enumD_at {c : Int} {ds : List D} {i : Nat} {d : D} (h : (enumD c ds)[i]? = some d) : ∃ e, ds[i]? = some e ∧ d = .tuple [.int (c + (i : Nat)), e] := by
  unfold enumD at h
  rw [List.getElem?_mapIdx] at h
  cases e : ds[i]? with
  | none => rw [e] at h; cases h
  | some x => rw [e] at h; cases h; exact ⟨x, rfl, rfl⟩
/-! ### lists of rationals -/
def pl (F : PS) (n : Nat) : List D := (List.range n).map fun i => fr (F.c i)
theorem pl_len (F : PS) (n : Nat) : (pl F n).length = n := by unfold pl; rw [List.length_map, List.length_range]
theorem pl_get {F : PS} {n i : Nat} (h : i < n) : (pl F n)[i]? = some (fr (F.c i)) := by
  unfold pl
  rw [List.getElem?_map, List.getElem?_range h]
  rfl
theorem pl_tk (F : PS) (n : Nat) : pl F n = (tk n F).map fr := by unfold pl tk; rw [List.map_map]; rfl
theorem pl_succ (F : PS) (n : Nat) : pl F (n + 1) = pl F n ++ [fr (F.c n)] := by unfold pl; rw [List.range_succ, List.map_append]; rfl
theorem pl_app {F : PS} {n m : Nat} (h : n ≤ m) (z : ∀ j, n ≤ j → j < m → F.c j = 0) : pl F n ++ List.replicate (m - n) (fr 0) = pl F m := by
  refine List.ext_getElem? fun i => ?_
  by_cases h1 : i < n
  · rw [List.getElem?_append_left (by rw [pl_len]; exact h1), pl_get h1, pl_get (by omega)]
  · rw [List.getElem?_append_right (by rw [pl_len]; omega), pl_len, List.getElem?_replicate]
    by_cases h2 : i < m
    · rw [if_pos (by omega), pl_get h2, z i (by omega) h2]
    · rw [if_neg (by omega), List.getElem?_eq_none (by rw [pl_len]; omega)]
theorem pl_drop1 (F : PS) (a : Rat) (n : Nat) : (pl (C a + X * F) (n + 1)).drop 1 = pl F n := by
  refine List.ext_getElem? fun i => ?_
  rw [List.getElem?_drop]
  by_cases h : i < n
  · rw [pl_get h, pl_get (by omega), Nat.add_comm, ech_a]
  · rw [List.getElem?_eq_none (by rw [pl_len]; omega), List.getElem?_eq_none (by rw [pl_len]; omega)]
theorem pl_cons (F : PS) (a : Rat) (n : Nat) : fr a :: pl F n = pl (C a + X * F) (n + 1) := by
  refine List.ext_getElem? fun i => ?_
  cases i with
  | zero => rw [pl_get (by omega)]; show some (fr a) = _; rw [add_c, X_mul0, C_c, if_pos rfl]; congr 2; grind
  | succ i =>
    rw [List.getElem?_cons_succ]
    by_cases h : i < n
    · rw [pl_get h, pl_get (by omega), ech_a]
    · rw [List.getElem?_eq_none (by rw [pl_len]; omega), List.getElem?_eq_none (by rw [pl_len]; omega)]
/-! ### operators on lists -/
theorem gAddL {xs ys : List D} (h : xs.length + ys.length ≤ lim) : gAdd (.list xs) (.list ys) = some (.list (xs ++ ys)) := if_pos h
theorem gAddT {xs ys : List D} (h : xs.length + ys.length ≤ lim) : gAdd (.tuple xs) (.tuple ys) = some (.tuple (xs ++ ys)) := if_pos h
theorem rep_flat {a : D} : ∀ k, (List.replicate k [a]).flatten = List.replicate k a
  | 0 => rfl
  | k + 1 => by rw [List.replicate_succ, List.flatten_cons, rep_flat k]; rfl
theorem gMulLn {a : D} {k : Nat} (h : k ≤ lim) : gMul (.list [a]) (.int (k : Int)) = some (.list (List.replicate k a)) := by
  show (if 1 * (k : Int).toNat ≤ lim ∧ (k : Int).natAbs ≤ lim then some (PyData.list (List.replicate (k : Int).toNat [a]).flatten) else none) = _
  rw [if_pos (by constructor <;> omega), Int.toNat_natCast, rep_flat]
theorem gMulL0 {a : D} {k : Int} (h : k ≤ 0) (h2 : k.natAbs ≤ lim) : gMul (.list [a]) (.int k) = some (.list []) := by
  show (if 1 * k.toNat ≤ lim ∧ k.natAbs ≤ lim then some (PyData.list (List.replicate k.toNat [a]).flatten) else none) = _
  rw [if_pos (by constructor <;> omega), show k.toNat = 0 by omega]
  rfl
theorem gCatLn {xs ys : List D} (h : xs.length + ys.length ≤ lim) : gCatL (.list xs) (.list ys) = some (xs ++ ys) := if_pos h
theorem gRepLn {a : D} {k : Nat} (h : k ≤ lim) : gRepL (.list [a]) (.int (k : Int)) = some (List.replicate k a) := by
  show (if 1 * (k : Int).toNat ≤ lim ∧ (k : Int).natAbs ≤ lim then some (List.replicate (k : Int).toNat [a]).flatten else none) = _
  rw [if_pos (by constructor <;> omega), Int.toNat_natCast, rep_flat]
theorem cut_to {α : Type} (xs : List α) (n : Nat) : cut xs none (some (n : Int)) = xs.take n := by
  unfold cut
  rw [HT.sIx_nat]
  show (xs.drop 0).take (min n xs.length - 0) = _
  rw [List.drop_zero, Nat.sub_zero]
  by_cases h : n ≤ xs.length
  · rw [Nat.min_eq_left h]
  · rw [Nat.min_eq_right (by omega), List.take_of_length_le (by omega), List.take_of_length_le (by omega)]
theorem cut_from {α : Type} (xs : List α) (n : Nat) : cut xs (some (n : Int)) none = xs.drop n := by
  unfold cut
  rw [HT.sIx_nat]
  show (xs.drop (min n xs.length)).take (xs.length - min n xs.length) = _
  by_cases h : n ≤ xs.length
  · rw [Nat.min_eq_left h, List.take_of_length_le (by rw [List.length_drop]; omega)]
  · rw [Nat.min_eq_right (by omega), List.drop_of_length_le (by omega), List.drop_of_length_le (by omega), List.take_nil]
theorem gIxLn {xs : List D} {i : Nat} {x : D} (h : xs[i]? = some x) : gIx (.list xs) (.int (i : Int)) = some x := (atI_nat xs i).trans h
theorem gSetLn {xs : List D} {i : Nat} {x : D} (h : i < xs.length) : gSetIx (.list xs) (.int (i : Int)) x = some (.list (xs.set i x)) := by
  show (match ixN xs.length (i : Int) with | some j => some (PyData.list (xs.set j x)) | none => none) = _
  rw [ixN_nat _ _ h]
theorem gAppLn {xs : List D} {x : D} (h : xs.length < lim) : gApp (.list xs) x = some (.list (xs ++ [x])) := if_pos h
theorem add_nn (a b : Nat) : (a : Int) + (b : Int) = ((a + b : Nat) : Int) := (Int.natCast_add a b).symm
theorem gNe_int (i j : Int) : gNe (.int i) (.int j) = some (.bool (!decide (i = j))) := by
  show (if SeqAt.shaped (.int i) && SeqAt.shaped (.int j) then some (PyData.bool (!PyData.eqv (.int i) (.int j))) else none) = _
  rw [if_pos (by rfl), PyData.eqv]
  rfl
theorem eqv_fr (p q : Rat) : PyData.eqv (fr p) (fr q) = decide (p = q) := by
  unfold fr
  simp only [PyData.eqv, PyData.eqvAll, Bool.and_true]
  by_cases h : p = q
  · subst h
    simp
  · have : ¬ (p.num = q.num ∧ p.den = q.den) := fun e => h (Rat.ext e.1 e.2)
    by_cases h1 : p.num = q.num
    · have : p.den ≠ q.den := fun e => this ⟨h1, e⟩
      simp [h1, h]
      omega
    · simp [h1, h]
theorem gEq_fr (p q : Rat) : gEq (fr p) (fr q) = some (.bool (decide (p = q))) := by
  show (if SeqAt.shaped (fr p) && SeqAt.shaped (fr q) then some (PyData.bool (PyData.eqv (fr p) (fr q))) else none) = _
  rw [if_pos (by rfl), eqv_fr]
end Dn


/-! Sw2: the program's series: padded, filled, quotients, echoes. -/
namespace Dn
open PySem PySem.Spec PyProof.Rows L2 PS
theorem max0 (many L : Nat) : (if (many : Int) - (L : Int) > 0 then (many : Int) - (L : Int) else 0) = ((many - L : Nat) : Int) := by split <;> omega
theorem lit_zero : PyData.tuple [.int 0, .int 1] = fr 0 := rfl
theorem lit_one : PyData.tuple [.int 1, .int 1] = fr 1 := rfl
theorem sem_padded {F : PS} {L many : Nat} (z : ∀ j, L ≤ j → j < many → F.c j = 0) (h : L + many ≤ lim) : fn_padded [.list (pl F L), .int (many : Int)] = .ok (.list (pl F (max L many))) [] := by
  have g1 : gMul (.list [fr 0]) (.int ((many - L : Nat) : Int)) = some (.list (List.replicate (many - L) (fr 0))) := gMulLn (by omega)
  have g2 : gCatL (.list (pl F L)) (.list (List.replicate (many - L) (fr 0))) = some (pl F L ++ List.replicate (many - L) (fr 0)) := gCatLn (by rw [pl_len, List.length_replicate]; omega)
  have e : pl F L ++ List.replicate (many - L) (fr 0) = pl F (max L many) := by
    by_cases hl : L ≤ many
    · rw [pl_app hl z, Nat.max_eq_right hl]
    · rw [show many - L = 0 by omega, List.replicate_zero, List.append_nil, Nat.max_eq_left (by omega)]
  simp only [fn_padded, den_padded, dOpL, gSeq, fnD, dSeq, dSet, dRet, dRetS, dRetN, dCall, dCallB, dCallO, dCons, dNil, dVar, dSlot, dC, dOp, dIf, dIfS, dNx, dTest, dNotT, dAndT, dOrT, dAnd, dOr, dNot, dNeg, dTup, dLst, dPar, dAsg, dSetIx, dApp, dLenS, dIxS, atL, res, resA, lift, wb, R.bind, R.bind_ok, R.bind_exc, tN, tNil', tCons', tTup', tSq', gSqL, gSqT, gAddI, gSubI, gMulI, gDivI, gModI, gAbs, gInt, gLen, gMax, gMin, gGt, gLt, gGe, gLe, List.map_cons, List.map_nil, List.length_cons, List.length_nil, List.replicate_succ, List.replicate_zero, List.cons_append, List.nil_append, List.append_nil, List.getElem?_cons_zero, List.getElem?_cons_succ, List.getElem?_nil, List.set_cons_zero, List.set_cons_succ, Option.join_some, Option.join_none, Option.bind_some, Option.bind_none, Nat.zero_add, Nat.reduceAdd, Nat.reduceSub, Nat.sub_zero, if_true, Bool.false_eq_true, if_false, ite_true, ite_false, gSet0, gSet1, gSet2, gIx0, gIx1, gIx2, gIxL0, gIxL1, gIxL2, gCmp, decide_true, decide_false, Bool.not_true, Bool.not_false, Option.map_some, liftL, iVal, iArg, lit_zero, pl_len, max0, g1, g2, e]
theorem sem_filled {F : PS} {L many : Nat} (z : ∀ j, L ≤ j → j < many → F.c j = 0) (h : L + many ≤ lim) : fn_filled [.list (pl F L), .int (many : Int)] = .ok (.list (pl F many)) [] := by
  have g1 : gMul (.list [fr 0]) (.int (many : Int)) = some (.list (List.replicate many (fr 0))) := gMulLn (by omega)
  have g2 : gAdd (.list (pl F L)) (.list (List.replicate many (fr 0))) = some (.list (pl F L ++ List.replicate many (fr 0))) := gAddL (by rw [pl_len, List.length_replicate]; omega)
  have e : (pl F L ++ List.replicate many (fr 0)).take many = pl F many := by
    refine List.ext_getElem? fun i => ?_
    rw [List.getElem?_take]
    split
    · rename_i hi
      by_cases h1 : i < L
      · rw [List.getElem?_append_left (by rw [pl_len]; exact h1), pl_get h1, pl_get hi]
      · rw [List.getElem?_append_right (by rw [pl_len]; omega), pl_len, List.getElem?_replicate, if_pos (by omega), pl_get hi, z i (by omega) hi]
    · rw [List.getElem?_eq_none (by rw [pl_len]; omega)]
  simp only [fn_filled, den_filled, dSlL, gSlL, dNoPart, dPart, gSeq, fnD, dSeq, dSet, dRet, dRetS, dRetN, dCall, dCallB, dCallO, dCons, dNil, dVar, dSlot, dC, dOp, dIf, dIfS, dNx, dTest, dNotT, dAndT, dOrT, dAnd, dOr, dNot, dNeg, dTup, dLst, dPar, dAsg, dSetIx, dApp, dLenS, dIxS, atL, res, resA, lift, wb, R.bind, R.bind_ok, R.bind_exc, tN, tNil', tCons', tTup', tSq', gSqL, gSqT, gAddI, gSubI, gMulI, gDivI, gModI, gAbs, gInt, gLen, gMax, gMin, gGt, gLt, gGe, gLe, List.map_cons, List.map_nil, List.length_cons, List.length_nil, List.replicate_succ, List.replicate_zero, List.cons_append, List.nil_append, List.append_nil, List.getElem?_cons_zero, List.getElem?_cons_succ, List.getElem?_nil, List.set_cons_zero, List.set_cons_succ, Option.join_some, Option.join_none, Option.bind_some, Option.bind_none, Nat.zero_add, Nat.reduceAdd, Nat.reduceSub, Nat.sub_zero, if_true, Bool.false_eq_true, if_false, ite_true, ite_false, gSet0, gSet1, gSet2, gIx0, gIx1, gIx2, gIxL0, gIxL1, gIxL2, gCmp, decide_true, decide_false, Bool.not_true, Bool.not_false, Option.map_some, liftL, iVal, iArg, lit_zero, pl_len, g1, g2, cut_to, e]
/-! ### quotients -/
theorem pl_set {F G : PS} {n i : Nat} {x : Rat} (hi : i < n) (h : ∀ j, j < n → G.c j = if j = i then x else F.c j) : (pl F n).set i (fr x) = pl G n := by
  refine List.ext_getElem? fun j => ?_
  rw [List.getElem?_set, pl_len]
  by_cases hj : j < n
  · rw [pl_get hj, pl_get hj, h j hj]
    by_cases e : i = j
    · subst e; rw [if_pos rfl, if_pos hi, if_pos rfl]
    · rw [if_neg e, if_neg (fun z => e z.symm)]
  · rw [if_neg (by omega), List.getElem?_eq_none (by rw [pl_len]; omega), List.getElem?_eq_none (by rw [pl_len]; omega)]
/-- the rest behind p whole turns and s steps -/
def rin (A B : PS) (many p s : Nat) : PS := ⟨fun j => if j < many then rest A B (if j < p + s then min (p + 1) (j + 1) else min p (j + 1)) j else A.c j⟩
theorem rin_0 (A B : PS) (many : Nat) : rin A B many 0 0 = A := ext fun j => by
  show (if j < many then rest A B (if j < 0 + 0 then min (0 + 1) (j + 1) else min 0 (j + 1)) j else A.c j) = _
  split
  · rw [if_neg (by omega), Nat.zero_min]
    show A.c j - 0 = _
    grind
  · rfl
theorem rin_next (A B : PS) (many p : Nat) : rin A B many p (many - p) = rin A B many (p + 1) 0 := ext fun j => by
  show (if j < many then rest A B (if j < p + (many - p) then min (p + 1) (j + 1) else min p (j + 1)) j else A.c j) = (if j < many then rest A B (if j < p + 1 + 0 then min (p + 1 + 1) (j + 1) else min (p + 1) (j + 1)) j else A.c j)
  by_cases h : j < many
  · rw [if_pos h, if_pos h]
    by_cases h1 : j < p + 1
    · rw [if_pos (by omega), if_pos (by omega), show min (p + 1) (j + 1) = min (p + 1 + 1) (j + 1) by omega]
    · rw [if_pos (by omega), if_neg (by omega)]
  · rw [if_neg h, if_neg h]
theorem quo_inner {A B : PS} {La Lb many p : Nat} (q : QS many A B) (hb : B.c 0 ≠ 0) (hp : p < many) (hLa : many ≤ La) (hLb : many ≤ Lb) {x0 x1 : Option D} (x7 : Option D) :
    ∃ x7', forD (tN 7) den_quotient_to_b0 (rangeD 0 (many - p)) [x0, x1, some (.int (many : Int)), some (.list (pl (rin A B many p 0) La)), some (.list (pl (div A B) (p + 1))), some (.list (pl B Lb)), some (.int (p : Int)), x7] =
      .ok .nx [x0, x1, some (.int (many : Int)), some (.list (pl (rin A B many (p + 1) 0) La)), some (.list (pl (div A B) (p + 1))), some (.list (pl B Lb)), some (.int (p : Int)), x7'] := by
  obtain ⟨r, e, x7', hr⟩ := forD_run (tg := tN 7) (f := den_quotient_to_b0)
    (fun s r => ∃ x7', r = [x0, x1, some (.int (many : Int)), some (.list (pl (rin A B many p s) La)), some (.list (pl (div A B) (p + 1))), some (.list (pl B Lb)), some (.int (p : Int)), x7'])
    (rangeD 0 (many - p)) 0 _ (fun s d ρ hd hI => by
      obtain ⟨x7', rfl⟩ := hI
      obtain ⟨rfl, hs⟩ := rangeD_at hd
      rw [Int.zero_add, Nat.zero_add]
      have g1 := gIxLn (xs := pl (rin A B many p s) La) (i := p + s) (pl_get (by omega))
      have g2 : gIx (.list (pl (div A B) (p + 1))) (.int (-1)) = some (fr ((div A B).c p)) := by rw [pl_succ]; exact gIxLast
      have g3 := gIxLn (xs := pl B Lb) (i := s) (pl_get (by omega))
      have v1 : (rin A B many p s).c (p + s) = rest A B p (p + s) := by
        show (if p + s < many then rest A B (if p + s < p + s then _ else min p (p + s + 1)) (p + s) else _) = _
        rw [if_pos (by omega), if_neg (by omega), Nat.min_eq_left (by omega)]
      have s1 : Sm 2660 ((rin A B many p s).c (p + s)) := by rw [v1]; exact q.fR p (p + s) (by omega) (by omega)
      have s2 := q.fS p hp
      have s3 := q.fB s (by omega)
      have t1 : fn_times [fr ((div A B).c p), fr (B.c s)] = .ok (fr ((div A B).c p * B.c s)) [] := sem_times (by omega)
      have t2 : fn_minus [fr ((rin A B many p s).c (p + s)), fr ((div A B).c p * B.c s)] = .ok (fr ((rin A B many p s).c (p + s) - (div A B).c p * B.c s)) [] := sem_minus (by omega)
      have g4 := gSetLn (xs := pl (rin A B many p s) La) (i := p + s) (x := fr ((rin A B many p s).c (p + s) - (div A B).c p * B.c s)) (by rw [pl_len]; omega)
      rw [pl_set (G := rin A B many p (s + 1)) (by omega) (fun j hj => by
        by_cases e : j = p + s
        · subst e
          rw [if_pos rfl, v1]
          show (if p + s < many then rest A B (if p + s < p + (s + 1) then min (p + 1) (p + s + 1) else min p (p + s + 1)) (p + s) else _) = _
          rw [if_pos (by omega), if_pos (by omega), Nat.min_eq_left (by omega)]
          show A.c (p + s) - (sm p _ + (div A B).c p * B.c (p + s - p)) = (A.c (p + s) - sm p _) - (div A B).c p * B.c s
          rw [show p + s - p = s by omega]
          grind
        · rw [if_neg e]
          show (if j < many then rest A B (if j < p + (s + 1) then _ else _) j else _) = (if j < many then rest A B (if j < p + s then _ else _) j else _)
          by_cases h1 : j < p + s
          · rw [if_pos (by omega : j < p + (s + 1)), if_pos h1]
          · rw [if_neg (by omega : ¬ j < p + (s + 1)), if_neg h1])] at g4
      refine ⟨[x0, x1, some (.int (many : Int)), some (.list (pl (rin A B many p s) La)), some (.list (pl (div A B) (p + 1))), some (.list (pl B Lb)), some (.int (p : Int)), some (.int (s : Int))], _, rfl, ?_, some (.int (s : Int)), rfl⟩
      have n1 : (-1 : Int) = -1 := rfl
      simp only [den_quotient_to_b0, fnD, dSeq, dSet, dRet, dRetS, dRetN, dCall, dCallB, dCallO, dCons, dNil, dVar, dSlot, dC, dOp, dIf, dIfS, dNx, dTest, dNotT, dAndT, dOrT, dAnd, dOr, dNot, dNeg, dTup, dLst, dPar, dAsg, dSetIx, dApp, dLenS, dIxS, atL, res, resA, lift, wb, R.bind, R.bind_ok, R.bind_exc, tN, tNil', tCons', tTup', tSq', gSqL, gSqT, gAddI, gSubI, gMulI, gDivI, gModI, gAbs, gInt, gLen, gMax, gMin, gGt, gLt, gGe, gLe, List.map_cons, List.map_nil, List.length_cons, List.length_nil, List.replicate_succ, List.replicate_zero, List.cons_append, List.nil_append, List.append_nil, List.getElem?_cons_zero, List.getElem?_cons_succ, List.getElem?_nil, List.set_cons_zero, List.set_cons_succ, Option.join_some, Option.join_none, Option.bind_some, Option.bind_none, Nat.zero_add, Nat.reduceAdd, Nat.reduceSub, Nat.sub_zero, if_true, Bool.false_eq_true, if_false, ite_true, ite_false, gSet0, gSet1, gSet2, gIx0, gIx1, gIx2, gIxL0, gIxL1, gIxL2, gCmp, decide_true, decide_false, Bool.not_true, Bool.not_false, Option.map_some, liftL, iVal, iArg, add_nn, g1, g2, g3, t1, t2, g4]) ⟨x7, rfl⟩
  subst hr
  rw [rangeD_len, Nat.zero_add, rin_next] at e
  exact ⟨x7', e⟩
theorem sem_quo {A B : PS} {La Lb many : Nat} (q : QS many A B) (hb : B.c 0 ≠ 0) (zA : ∀ j, La ≤ j → j < many → A.c j = 0) (zB : ∀ j, Lb ≤ j → j < many → B.c j = 0) (hL : La + many ≤ lim) (hL2 : Lb + many ≤ lim) :
    fn_quotient_to [.list (pl A La), .list (pl B Lb), .int (many : Int)] = .ok (.list (pl (div A B) many)) [] := by
  have p1 := sem_padded zA hL
  have p2 := sem_padded zB hL2
  have hl : lim = 1000000 := rfl
  obtain ⟨r, e, x6, x7, hr⟩ := forD_run (tg := tN 6) (f := den_quotient_to_b1)
    (fun p r => ∃ x6 x7, r = [some (.list (pl A La)), some (.list (pl B Lb)), some (.int (many : Int)), some (.list (pl (rin A B many p 0) (max La many))), some (.list (pl (div A B) p)), some (.list (pl B (max Lb many))), x6, x7])
    (rangeD 0 many) 0 [some (.list (pl A La)), some (.list (pl B Lb)), some (.int (many : Int)), some (.list (pl A (max La many))), some (.list []), some (.list (pl B (max Lb many))), none, none] (fun p d ρ hd hI => by
      obtain ⟨x6, x7, rfl⟩ := hI
      obtain ⟨rfl, hp⟩ := rangeD_at hd
      rw [Int.zero_add, Nat.zero_add]
      have g1 := gIxLn (xs := pl (rin A B many p 0) (max La many)) (i := p) (pl_get (by omega))
      have g0 : gIx (.list (pl B (max Lb many))) (.int 0) = some (fr (B.c 0)) := gIxLn (i := 0) (pl_get (by omega))
      have v1 : (rin A B many p 0).c p = rest A B p p := by
        show (if p < many then rest A B (if p < p + 0 then _ else min p (p + 1)) p else _) = _
        rw [if_pos (by omega), if_neg (by omega), Nat.min_eq_left (by omega)]
      have s1 : Sm 2660 ((rin A B many p 0).c p) := by rw [v1]; exact q.fR p p (by omega) (by omega)
      have s2 := q.fB 0 (by omega)
      have t1 : fn_over [fr ((rin A B many p 0).c p), fr (B.c 0)] = .ok (fr ((rin A B many p 0).c p / B.c 0)) [] := sem_over (by omega) hb
      have g2 := gAppLn (xs := pl (div A B) p) (x := fr ((rin A B many p 0).c p / B.c 0)) (by rw [pl_len]; omega)
      have v2 : pl (div A B) p ++ [fr ((rin A B many p 0).c p / B.c 0)] = pl (div A B) (p + 1) := by rw [pl_succ, rest_div, v1]
      rw [v2] at g2
      have g3 : gRange1 [.int ((many : Int) - (p : Int))] = some (rangeD 0 (many - p)) := by
        rw [show (many : Int) - (p : Int) = ((many - p : Nat) : Int) by omega]
        exact gRange1_n (by omega)
      obtain ⟨x7', e7⟩ := quo_inner (x0 := some (.list (pl A La))) (x1 := some (.list (pl B Lb))) q hb hp (Nat.le_max_right La many) (Nat.le_max_right Lb many) x7
      refine ⟨[some (.list (pl A La)), some (.list (pl B Lb)), some (.int (many : Int)), some (.list (pl (rin A B many p 0) (max La many))), some (.list (pl (div A B) p)), some (.list (pl B (max Lb many))), some (.int (p : Int)), x7], _, rfl, ?_, some (.int (p : Int)), x7', rfl⟩
      simp only [den_quotient_to_b1, dFor, iRange1, fnD, dSeq, dSet, dRet, dRetS, dRetN, dCall, dCallB, dCallO, dCons, dNil, dVar, dSlot, dC, dOp, dIf, dIfS, dNx, dTest, dNotT, dAndT, dOrT, dAnd, dOr, dNot, dNeg, dTup, dLst, dPar, dAsg, dSetIx, dApp, dLenS, dIxS, atL, res, resA, lift, wb, R.bind, R.bind_ok, R.bind_exc, tN, tNil', tCons', tTup', tSq', gSqL, gSqT, gAddI, gSubI, gMulI, gDivI, gModI, gAbs, gInt, gLen, gMax, gMin, gGt, gLt, gGe, gLe, List.map_cons, List.map_nil, List.length_cons, List.length_nil, List.replicate_succ, List.replicate_zero, List.cons_append, List.nil_append, List.append_nil, List.getElem?_cons_zero, List.getElem?_cons_succ, List.getElem?_nil, List.set_cons_zero, List.set_cons_succ, Option.join_some, Option.join_none, Option.bind_some, Option.bind_none, Nat.zero_add, Nat.reduceAdd, Nat.reduceSub, Nat.sub_zero, if_true, Bool.false_eq_true, if_false, ite_true, ite_false, gSet0, gSet1, gSet2, gIx0, gIx1, gIx2, gIxL0, gIxL1, gIxL2, gCmp, decide_true, decide_false, Bool.not_true, Bool.not_false, Option.map_some, liftL, iVal, iArg, g1, g0, t1, g2, g3, e7]) ⟨none, none, by rw [rin_0]; rfl⟩
  subst hr
  rw [rangeD_len, Nat.zero_add] at e
  have g := gRange1_n (n := many) (by omega)
  simp only [fn_quotient_to, den_quotient_to, dFor, iRange1, dRetS, fnD, dSeq, dSet, dRet, dRetS, dRetN, dCall, dCallB, dCallO, dCons, dNil, dVar, dSlot, dC, dOp, dIf, dIfS, dNx, dTest, dNotT, dAndT, dOrT, dAnd, dOr, dNot, dNeg, dTup, dLst, dPar, dAsg, dSetIx, dApp, dLenS, dIxS, atL, res, resA, lift, wb, R.bind, R.bind_ok, R.bind_exc, tN, tNil', tCons', tTup', tSq', gSqL, gSqT, gAddI, gSubI, gMulI, gDivI, gModI, gAbs, gInt, gLen, gMax, gMin, gGt, gLt, gGe, gLe, List.map_cons, List.map_nil, List.length_cons, List.length_nil, List.replicate_succ, List.replicate_zero, List.cons_append, List.nil_append, List.append_nil, List.getElem?_cons_zero, List.getElem?_cons_succ, List.getElem?_nil, List.set_cons_zero, List.set_cons_succ, Option.join_some, Option.join_none, Option.bind_some, Option.bind_none, Nat.zero_add, Nat.reduceAdd, Nat.reduceSub, Nat.sub_zero, if_true, Bool.false_eq_true, if_false, ite_true, ite_false, gSet0, gSet1, gSet2, gIx0, gIx1, gIx2, gIxL0, gIxL1, gIxL2, gCmp, decide_true, decide_false, Bool.not_true, Bool.not_false, Option.map_some, liftL, iVal, iArg, p1, p2, g, e]
/-! ### echoes -/
theorem sem_later {F : PS} {p : Rat} {L many n : Nat} (z : ∀ j, L ≤ j → j + 1 < many → F.c j = 0) (q : QS many (C p + X * F) (1 + C p * (X * F))) [hp : Sm n p] (hn : n ≤ 2660) (hF : ∀ i, i < many → Sm 2660 (F.c i)) (h : L + many ≤ 400000) :
    fn_later [fr p, .list (pl F L), .int (many : Int)] = .ok (.list (pl (div (C p + X * F) (1 + C p * (X * F))) many)) [] := by
  have hl : lim = 1000000 := rfl
  have g1 : gAdd (.list [fr 0]) (.list (pl F L)) = some (.list (pl (C 0 + X * F) (L + 1))) := by rw [gAddL (by rw [pl_len]; simp; omega), ← pl_cons]; rfl
  have f1 := sem_filled (F := C 0 + X * F) (L := L + 1) (many := many) (fun j h1 h2 => by
    obtain ⟨k, rfl⟩ : ∃ k, j = k + 1 := ⟨j - 1, by omega⟩
    rw [ech_a]
    exact z k (by omega) (by omega)) (by omega)
  have m1 : dLc [4] (iSq (dVar 3)) (tN 4) dYes (dCall [] [none, none] [] [] fn_times (dCons (dVar 0) (dCons (dVar 4) dNil))) [some (fr p), some (.list (pl F L)), some (.int (many : Int)), some (.list (pl (C 0 + X * F) many)), none, none] = .ok (.list (pl (C p * (C 0 + X * F)) many)) [some (fr p), some (.list (pl F L)), some (.int (many : Int)), some (.list (pl (C 0 + X * F) many)), none, none] := by
    refine (lc_map (ds := pl (C 0 + X * F) many) (fun d => match d with | .tuple [.int a, .int b] => fr (p * ((a : Rat) / (b : Rat))) | _ => .none) rfl (by rw [pl_len]; omega) (fun d hd => by
      obtain ⟨i, hi, rfl⟩ := List.mem_map.mp hd
      have hi := List.mem_range.mp hi
      have s1 : Sm 2660 ((C 0 + X * F).c i) := by
        cases i with
        | zero => rw [add_c, X_mul0, C_c, if_pos rfl]; exact (inferInstance : Sm (1 + 1 + 1) ((0 : Rat) + 0)).le'
        | succ i => rw [ech_a]; exact hF i (by omega)
      have t1 : fn_times [fr p, fr ((C 0 + X * F).c i)] = .ok (fr (p * (C 0 + X * F).c i)) [] := sem_times (by omega)
      refine ⟨_, rfl, rfl, ?_⟩
      simp only [wipeR, fnD, dSeq, dSet, dRet, dRetS, dRetN, dCall, dCallB, dCallO, dCons, dNil, dVar, dSlot, dC, dOp, dIf, dIfS, dNx, dTest, dNotT, dAndT, dOrT, dAnd, dOr, dNot, dNeg, dTup, dLst, dPar, dAsg, dSetIx, dApp, dLenS, dIxS, atL, res, resA, lift, wb, R.bind, R.bind_ok, R.bind_exc, tN, tNil', tCons', tTup', tSq', gSqL, gSqT, gAddI, gSubI, gMulI, gDivI, gModI, gAbs, gInt, gLen, gMax, gMin, gGt, gLt, gGe, gLe, List.map_cons, List.map_nil, List.length_cons, List.length_nil, List.replicate_succ, List.replicate_zero, List.cons_append, List.nil_append, List.append_nil, List.getElem?_cons_zero, List.getElem?_cons_succ, List.getElem?_nil, List.set_cons_zero, List.set_cons_succ, Option.join_some, Option.join_none, Option.bind_some, Option.bind_none, Nat.zero_add, Nat.reduceAdd, Nat.reduceSub, Nat.sub_zero, if_true, Bool.false_eq_true, if_false, ite_true, ite_false, gSet0, gSet1, gSet2, gIx0, gIx1, gIx2, gIxL0, gIxL1, gIxL2, gCmp, decide_true, decide_false, Bool.not_true, Bool.not_false, Option.map_some, liftL, iVal, iArg, t1]
      show _ = R.ok (fr (p * (((C 0 + X * F).c i).num / (((C 0 + X * F).c i).den : Int)))) _
      rw [q_self])).trans ?_
    congr 2
    unfold pl
    rw [List.map_map]
    refine List.map_congr_left fun i _ => ?_
    show fr (p * (((C 0 + X * F).c i).num / (((C 0 + X * F).c i).den : Int))) = _
    rw [q_self, C_mul]
  cases many with
  | zero =>
    have qq := sem_quo (A := C p) (B := 1) (La := 1) (Lb := 1) (many := 0) ⟨fun i h => by omega, fun i h => by omega, fun m j h1 h2 => by omega⟩ (by rw [one_c, if_pos rfl]; decide +kernel) (fun j h1 h2 => by omega) (fun j h1 h2 => by omega) (by decide) (by decide)
    have e1 : pl (C p) 1 = [fr p] := by show [fr ((C p).c 0)] = _; rw [C_c, if_pos rfl]
    have e2 : pl 1 1 = [fr 1] := by show [fr ((1 : PS).c 0)] = _; rw [one_c, if_pos rfl]
    have e0 : ∀ G, pl G 0 = [] := fun G => rfl
    rw [e1, e2, e0] at qq
    rw [e0] at f1 m1 ⊢
    rw [e0] at m1
    have c1 : cut ([] : List D) (some 1) none = [] := rfl
    have a1 : gAdd (.list [fr p]) (.list []) = some (.list [fr p]) := gAddL (show 1 ≤ lim by decide)
    have a2 : gAdd (.list [fr 1]) (.list []) = some (.list [fr 1]) := gAddL (show 1 ≤ lim by decide)
    simp only [fn_later, den_later, dSl, gSl, dNoPart, dPart, gSeq, fnD, dSeq, dSet, dRet, dRetS, dRetN, dCall, dCallB, dCallO, dCons, dNil, dVar, dSlot, dC, dOp, dIf, dIfS, dNx, dTest, dNotT, dAndT, dOrT, dAnd, dOr, dNot, dNeg, dTup, dLst, dPar, dAsg, dSetIx, dApp, dLenS, dIxS, atL, res, resA, lift, wb, R.bind, R.bind_ok, R.bind_exc, tN, tNil', tCons', tTup', tSq', gSqL, gSqT, gAddI, gSubI, gMulI, gDivI, gModI, gAbs, gInt, gLen, gMax, gMin, gGt, gLt, gGe, gLe, List.map_cons, List.map_nil, List.length_cons, List.length_nil, List.replicate_succ, List.replicate_zero, List.cons_append, List.nil_append, List.append_nil, List.getElem?_cons_zero, List.getElem?_cons_succ, List.getElem?_nil, List.set_cons_zero, List.set_cons_succ, Option.join_some, Option.join_none, Option.bind_some, Option.bind_none, Nat.zero_add, Nat.reduceAdd, Nat.reduceSub, Nat.sub_zero, if_true, Bool.false_eq_true, if_false, ite_true, ite_false, gSet0, gSet1, gSet2, gIx0, gIx1, gIx2, gIxL0, gIxL1, gIxL2, gCmp, decide_true, decide_false, Bool.not_true, Bool.not_false, Option.map_some, liftL, iVal, iArg, lit_zero, lit_one, g1, f1, m1, c1, a1, a2, qq]
  | succ k =>
    have d1 : cut (pl (C 0 + X * F) (k + 1)) (some 1) none = pl F k := (cut_from _ 1).trans (pl_drop1 _ _ _)
    have d2 : cut (pl (C p * (C 0 + X * F)) (k + 1)) (some 1) none = pl (C p * F) k := by
      rw [show C p * (C 0 + X * F) = C 0 + X * (C p * F) by rw [show C 0 = (0 : PS) from rfl]; grind]
      exact (cut_from _ 1).trans (pl_drop1 _ _ _)
    have g2 : gAdd (.list [fr p]) (.list (pl F k)) = some (.list (pl (C p + X * F) (k + 1))) := by rw [gAddL (by rw [pl_len]; simp; omega), ← pl_cons]; rfl
    have g3 : gAdd (.list [fr 1]) (.list (pl (C p * F) k)) = some (.list (pl (1 + C p * (X * F)) (k + 1))) := by
      rw [gAddL (by rw [pl_len]; simp; omega), show (1 : PS) + C p * (X * F) = C 1 + X * (C p * F) by rw [show (1 : PS) = C 1 from rfl]; grind, ← pl_cons]; rfl
    have qq := sem_quo (La := k + 1) (Lb := k + 1) q (by rw [ech_den]; decide +kernel) (fun j h1 h2 => by omega) (fun j h1 h2 => by omega) (by omega) (by omega)
    simp only [fn_later, den_later, dSl, gSl, dNoPart, dPart, gSeq, fnD, dSeq, dSet, dRet, dRetS, dRetN, dCall, dCallB, dCallO, dCons, dNil, dVar, dSlot, dC, dOp, dIf, dIfS, dNx, dTest, dNotT, dAndT, dOrT, dAnd, dOr, dNot, dNeg, dTup, dLst, dPar, dAsg, dSetIx, dApp, dLenS, dIxS, atL, res, resA, lift, wb, R.bind, R.bind_ok, R.bind_exc, tN, tNil', tCons', tTup', tSq', gSqL, gSqT, gAddI, gSubI, gMulI, gDivI, gModI, gAbs, gInt, gLen, gMax, gMin, gGt, gLt, gGe, gLe, List.map_cons, List.map_nil, List.length_cons, List.length_nil, List.replicate_succ, List.replicate_zero, List.cons_append, List.nil_append, List.append_nil, List.getElem?_cons_zero, List.getElem?_cons_succ, List.getElem?_nil, List.set_cons_zero, List.set_cons_succ, Option.join_some, Option.join_none, Option.bind_some, Option.bind_none, Nat.zero_add, Nat.reduceAdd, Nat.reduceSub, Nat.sub_zero, if_true, Bool.false_eq_true, if_false, ite_true, ite_false, gSet0, gSet1, gSet2, gIx0, gIx1, gIx2, gIxL0, gIxL1, gIxL2, gCmp, decide_true, decide_false, Bool.not_true, Bool.not_false, Option.map_some, liftL, iVal, iArg, lit_zero, lit_one, g1, f1, m1, d1, d2, g2, g3, qq]
end Dn


/-! Sw3: echoes of rows, by the program and by waves. -/
namespace Dn
open PySem PySem.Spec PyProof.Rows L2 PS
/-- a row's data -/
def rowD (ps : List Rat) (w : Int) : D := .tuple [.tuple (ps.map fr), .int w]
theorem fr_int (w : Int) : PyData.tuple [.int w, .int 1] = fr (w : Rat) := by
  unfold fr
  rw [Rat.num_intCast, Rat.den_intCast]
  rfl
theorem lw_wall {E : Nat} {w : Int} (h : w = 0 ∨ w = 1 ∨ w = -1) : Lw E 1 0 (w : Rat) := by
  refine (Lw.int (b := 0) (z := w) ?_).le (by omega) (Nat.le_refl _)
  rcases h with rfl | rfl | rfl <;> decide
theorem sem_echo {E k e : Nat} (hE : Bot E k e) {ps : List Rat} {w : Int} {many : Nat} (hw : w = 0 ∨ w = 1 ∨ w = -1) (hp : ∀ p ∈ ps, Lw E 1 0 p) (hl : many ≤ 1000)
    (hm : e * (2 * many - 1) + (2 * ps.length + 3) * many + 1 ≤ 2660) (he : e + 1 ≤ 2660) : fn_echo [rowD ps w, .int (many : Int)] = .ok (.list (pl (Ech w ps) many)) [] := by
  have hw' := lw_wall (E := E) hw
  have f1 : fn_filled [.list [fr (w : Rat)], .int (many : Int)] = .ok (.list (pl (C (w : Rat)) many)) [] := by
    have : [fr (w : Rat)] = pl (C (w : Rat)) 1 := by show _ = [fr ((C (w : Rat)).c 0)]; rw [C_c, if_pos rfl]
    rw [this]
    exact sem_filled (fun j h1 h2 => by rw [C_c, if_neg (by omega)]) (by have : lim = 1000000 := rfl; omega)
  obtain ⟨r, e1, x5, hr⟩ := forD_run (tg := tN 5) (f := den_echo_b0)
    (fun i r => ∃ x5, r = [some (rowD ps w), some (.int (many : Int)), some (.tuple (ps.map fr)), some (.int w), some (.list (pl (Ech w (ps.drop (ps.length - i))) many)), x5])
    (ps.map fr).reverse 0 [some (rowD ps w), some (.int (many : Int)), some (.tuple (ps.map fr)), some (.int w), some (.list (pl (C (w : Rat)) many)), none] (fun i d ρ hd hI => by
      obtain ⟨x5, rfl⟩ := hI
      rw [Nat.zero_add]
      have hi : i < ps.length := by have := (List.getElem?_eq_some_iff.mp hd).1; simpa using this
      have hd2 : d = fr ps[ps.length - 1 - i] := by
        rw [← List.map_reverse, List.getElem?_map, List.getElem?_reverse hi, List.getElem?_eq_getElem (by omega)] at hd
        exact (Option.some.inj hd).symm
      subst hd2
      have e2 : ps.drop (ps.length - (i + 1)) = ps[ps.length - 1 - i] :: ps.drop (ps.length - i) := by
        rw [show ps.length - (i + 1) = ps.length - 1 - i by omega, List.drop_eq_getElem_cons (by omega), show ps.length - 1 - i + 1 = ps.length - i by omega]
      have hpi := hp _ (List.getElem_mem (show ps.length - 1 - i < ps.length by omega))
      have hd : ∀ p ∈ ps.drop (ps.length - i), Lw E 1 0 p := fun p h => hp p (List.mem_of_mem_drop h)
      have hlen : (ps.drop (ps.length - i)).length = i := by rw [List.length_drop]; omega
      have hm' : e * (2 * many - 1) + (2 * (ps.drop (ps.length - i)).length + 3) * many + 1 ≤ 2660 := by
        rw [hlen]
        have := Nat.mul_le_mul_right many (show 2 * i + 3 ≤ 2 * ps.length + 3 by omega)
        omega
      have q := qs_ech hE hw' hpi hd hm'
      have hs := hpi.sm hE
      have g := gra_ech hw' hd
      have hF : ∀ i', i' < many → Sm 2660 ((Ech w (ps.drop (ps.length - i))).c i') := fun i' h => by
        refine ((g i').sm hE).le ?_
        have h1 : e * (2 * i' + 1) ≤ e * (2 * many - 1) := Nat.mul_le_mul_left _ (by omega)
        have h2 : (2 * (ps.drop (ps.length - i)).length + 1) * i' ≤ (2 * (ps.drop (ps.length - i)).length + 3) * many := Nat.mul_le_mul (by omega) (by omega)
        omega
      have l := sem_later (L := many) (F := Ech w (ps.drop (ps.length - i))) (fun j h1 h2 => by omega) q (by omega : e * 1 + 0 + 1 ≤ 2660) hF (by omega)
      refine ⟨_, _, rfl, ?_, some (fr ps[ps.length - 1 - i]), rfl⟩
      simp only [den_echo_b0, fnD, dSeq, dSet, dRet, dRetS, dRetN, dCall, dCallB, dCallO, dCons, dNil, dVar, dSlot, dC, dOp, dIf, dIfS, dNx, dTest, dNotT, dAndT, dOrT, dAnd, dOr, dNot, dNeg, dTup, dLst, dPar, dAsg, dSetIx, dApp, dLenS, dIxS, atL, res, resA, lift, wb, R.bind, R.bind_ok, R.bind_exc, tN, tNil', tCons', tTup', tSq', gSqL, gSqT, gAddI, gSubI, gMulI, gDivI, gModI, gAbs, gInt, gLen, gMax, gMin, gGt, gLt, gGe, gLe, List.map_cons, List.map_nil, List.length_cons, List.length_nil, List.replicate_succ, List.replicate_zero, List.cons_append, List.nil_append, List.append_nil, List.getElem?_cons_zero, List.getElem?_cons_succ, List.getElem?_nil, List.set_cons_zero, List.set_cons_succ, Option.join_some, Option.join_none, Option.bind_some, Option.bind_none, Nat.zero_add, Nat.reduceAdd, Nat.reduceSub, Nat.sub_zero, if_true, Bool.false_eq_true, if_false, ite_true, ite_false, gSet0, gSet1, gSet2, gIx0, gIx1, gIx2, gIxL0, gIxL1, gIxL2, gCmp, decide_true, decide_false, Bool.not_true, Bool.not_false, Option.map_some, liftL, iVal, iArg, l]
      rw [e2]
      rfl) ⟨none, by rw [Nat.sub_zero, List.drop_length]; rfl⟩
  subst hr
  rw [List.length_reverse, List.length_map, Nat.zero_add, Nat.sub_self, List.drop_zero] at e1
  unfold rowD at e1 ⊢
  simp only [fn_echo, den_echo, dFor, iSq, dRevD, gRevD, dRetS, fnD, dSeq, dSet, dRet, dRetS, dRetN, dCall, dCallB, dCallO, dCons, dNil, dVar, dSlot, dC, dOp, dIf, dIfS, dNx, dTest, dNotT, dAndT, dOrT, dAnd, dOr, dNot, dNeg, dTup, dLst, dPar, dAsg, dSetIx, dApp, dLenS, dIxS, atL, res, resA, lift, wb, R.bind, R.bind_ok, R.bind_exc, tN, tNil', tCons', tTup', tSq', gSqL, gSqT, gAddI, gSubI, gMulI, gDivI, gModI, gAbs, gInt, gLen, gMax, gMin, gGt, gLt, gGe, gLe, List.map_cons, List.map_nil, List.length_cons, List.length_nil, List.replicate_succ, List.replicate_zero, List.cons_append, List.nil_append, List.append_nil, List.getElem?_cons_zero, List.getElem?_cons_succ, List.getElem?_nil, List.set_cons_zero, List.set_cons_succ, Option.join_some, Option.join_none, Option.bind_some, Option.bind_none, Nat.zero_add, Nat.reduceAdd, Nat.reduceSub, Nat.sub_zero, if_true, Bool.false_eq_true, if_false, ite_true, ite_false, gSet0, gSet1, gSet2, gIx0, gIx1, gIx2, gIxL0, gIxL1, gIxL2, gCmp, decide_true, decide_false, Bool.not_true, Bool.not_false, Option.map_some, liftL, iVal, iArg, fr_int, f1, e1]
/-! ### one beat of the law's own waves -/
def wayD (S : WS) : List D := S.map fun x => .tuple [fr x.1, fr x.2]
theorem wayD_len (S : WS) : (wayD S).length = S.length := List.length_map _
theorem wayD_get {S : WS} {i : Nat} (h : i < S.length) : (wayD S)[i]? = some (.tuple [fr (S.getD i (0, 0)).1, fr (S.getD i (0, 0)).2]) := by
  unfold wayD
  rw [List.getElem?_map, List.getD_eq_getElem?_getD, List.getElem?_eq_getElem h]
  rfl
theorem sem_law_met' {n m k : Nat} {p a b : Rat} [hp : Sm n p] [ha : Sm m a] [hb : Sm k b] (h : 2 * n + m + k < 7900) : fn_law_met [fr p, fr a, fr b] = .ok (.tuple [fr (p * a + (1 - p) * b), fr ((1 + p) * a - p * b)]) [] := by
  simp (disch := omega) only [fn_law_met, den_law_met, fnD, dSeq, dSet, dRet, dRetS, dRetN, dCall, dCallB, dCallO, dCons, dNil, dVar, dSlot, dC, dOp, dIf, dIfS, dNx, dTest, dNotT, dAndT, dOrT, dAnd, dOr, dNot, dNeg, dTup, dLst, dPar, dAsg, dSetIx, dApp, dLenS, dIxS, atL, res, resA, lift, wb, R.bind, R.bind_ok, R.bind_exc, tN, tNil', tCons', tTup', tSq', gSqL, gSqT, gAddI, gSubI, gMulI, gDivI, gModI, gAbs, gInt, gLen, gMax, gMin, gGt, gLt, gGe, gLe, List.map_cons, List.map_nil, List.length_cons, List.length_nil, List.replicate_succ, List.replicate_zero, List.cons_append, List.nil_append, List.append_nil, List.getElem?_cons_zero, List.getElem?_cons_succ, List.getElem?_nil, List.set_cons_zero, List.set_cons_succ, Option.join_some, Option.join_none, Option.bind_some, Option.bind_none, Nat.zero_add, Nat.reduceAdd, Nat.reduceSub, Nat.sub_zero, if_true, Bool.false_eq_true, if_false, ite_true, ite_false, gSet0, gSet1, gSet2, gIx0, gIx1, gIx2, gIxL0, gIxL1, gIxL2, gCmp, decide_true, decide_false, Bool.not_true, Bool.not_false, Option.map_some, liftL, iVal, iArg, fr_one, sem_law_plus, sem_law_times, sem_law_less]
def lefP (ps : List Rat) (S : WS) (i : Nat) : PS := ⟨fun j => if j < i then lef ps S j else 0⟩
def rigP (ps : List Rat) (S : WS) (i : Nat) : PS := ⟨fun j => if 0 < j ∧ j ≤ i then rig ps S (j - 1) else 0⟩
theorem pl_zero {F : PS} {n : Nat} (h : ∀ j, j < n → F.c j = 0) : pl F n = List.replicate n (fr 0) := by
  refine List.ext_getElem? fun i => ?_
  rw [List.getElem?_replicate]
  by_cases hi : i < n
  · rw [if_pos hi, pl_get hi, h i hi]
  · rw [if_neg hi, List.getElem?_eq_none (by rw [pl_len]; omega)]
theorem pn_get {ps : List Rat} {i : Nat} (h : i < ps.length) : ps[i] = pn ps i := by rw [pn, List.getD_eq_getElem?_getD, List.getElem?_eq_getElem h]; rfl
theorem beat_loop {ps : List Rat} {S : WS} {N M : Nat} (hS : ∀ x ∈ S, Sm N x.1 ∧ Sm N x.2) (hp : ∀ p ∈ ps, Sm M p) (hN : 2 * M + 2 * N < 7900) (hl : S.length = ps.length + 1) {x0 x1 x2 x3 x4 x5 x11 : Option D} :
    ∃ x9 x10, forD (tSq' 2 (tCons' (tN 9) (tCons' (tN 10) tNil'))) den_law_beat_b0 (enumD 0 (ps.map fr)) [x0, x1, x2, x3, x4, x5, some (.list (wayD S)), some (.list (pl (lefP ps S 0) (ps.length + 2))), some (.list (pl (rigP ps S 0) (ps.length + 2))), none, none, x11] =
      .ok .nx [x0, x1, x2, x3, x4, x5, some (.list (wayD S)), some (.list (pl (lefP ps S ps.length) (ps.length + 2))), some (.list (pl (rigP ps S ps.length) (ps.length + 2))), x9, x10, x11] := by
  obtain ⟨r, e1, x9, x10, hr⟩ := forD_run (tg := tSq' 2 (tCons' (tN 9) (tCons' (tN 10) tNil'))) (f := den_law_beat_b0)
    (fun i r => ∃ x9 x10, r = [x0, x1, x2, x3, x4, x5, some (.list (wayD S)), some (.list (pl (lefP ps S i) (ps.length + 2))), some (.list (pl (rigP ps S i) (ps.length + 2))), x9, x10, x11])
    (enumD 0 (ps.map fr)) 0 [x0, x1, x2, x3, x4, x5, some (.list (wayD S)), some (.list (pl (lefP ps S 0) (ps.length + 2))), some (.list (pl (rigP ps S 0) (ps.length + 2))), none, none, x11] (fun i d ρ hd hI => by
      obtain ⟨x9, x10, rfl⟩ := hI
      obtain ⟨q, hq, rfl⟩ := enumD_at hd
      rw [List.getElem?_map] at hq
      have hi : i < ps.length := by
        rcases Nat.lt_or_ge i ps.length with z | z
        · exact z
        · rw [List.getElem?_eq_none z] at hq; cases hq
      rw [List.getElem?_eq_getElem hi, pn_get hi] at hq
      cases hq
      rw [Int.zero_add, Nat.zero_add]
      have s0 : Sm M (pn ps i) := by rw [← pn_get hi]; exact hp _ (List.getElem_mem hi)
      have mem : ∀ j, j < S.length → S.getD j (0, 0) ∈ S := fun j hj => by rw [List.getD_eq_getElem?_getD, List.getElem?_eq_getElem hj]; exact List.getElem_mem hj
      have s1 := (hS _ (mem i (by omega))).1
      have s2 := (hS _ (mem (i + 1) (by omega))).2
      have g1 := gIxLn (xs := wayD S) (i := i) (wayD_get (by omega))
      have g2 := gIxLn (xs := wayD S) (i := i + 1) (wayD_get (by omega))
      have m1 : fn_law_met [fr (pn ps i), fr (S.getD i (0, 0)).1, fr (S.getD (i + 1) (0, 0)).2] = .ok (.tuple [fr (lef ps S i), fr (rig ps S i)]) [] := sem_law_met' (by omega)
      have a1 := gSetLn (xs := pl (lefP ps S i) (ps.length + 2)) (i := i) (x := fr (lef ps S i)) (by rw [pl_len]; omega)
      have a2 := gSetLn (xs := pl (rigP ps S i) (ps.length + 2)) (i := i + 1) (x := fr (rig ps S i)) (by rw [pl_len]; omega)
      rw [pl_set (G := lefP ps S (i + 1)) (by omega) (fun j hj => by
        show (if j < i + 1 then lef ps S j else 0) = if j = i then lef ps S i else if j < i then lef ps S j else 0
        by_cases e : j = i
        · subst e; rw [if_pos (by omega), if_pos rfl]
        · rw [if_neg e]
          by_cases h : j < i
          · rw [if_pos h, if_pos (by omega)]
          · rw [if_neg h, if_neg (by omega)])] at a1
      rw [pl_set (G := rigP ps S (i + 1)) (by omega) (fun j hj => by
        show (if 0 < j ∧ j ≤ i + 1 then rig ps S (j - 1) else 0) = if j = i + 1 then rig ps S i else if 0 < j ∧ j ≤ i then rig ps S (j - 1) else 0
        by_cases e : j = i + 1
        · subst e; rw [if_pos (by omega), if_pos rfl]; rfl
        · rw [if_neg e]
          by_cases h : 0 < j ∧ j ≤ i
          · rw [if_pos h, if_pos (by omega)]
          · rw [if_neg h, if_neg (by omega)])] at a2
      have n1 : (i : Int) + 1 = ((i + 1 : Nat) : Int) := by omega
      refine ⟨[x0, x1, x2, x3, x4, x5, some (.list (wayD S)), some (.list (pl (lefP ps S i) (ps.length + 2))), some (.list (pl (rigP ps S i) (ps.length + 2))), some (.int (i : Int)), some (fr (pn ps i)), x11], _, rfl, ?_, some (.int (i : Int)), some (fr (pn ps i)), rfl⟩
      simp only [den_law_beat_b0, tIx, ixAt, fnD, dSeq, dSet, dRet, dRetS, dRetN, dCall, dCallB, dCallO, dCons, dNil, dVar, dSlot, dC, dOp, dIf, dIfS, dNx, dTest, dNotT, dAndT, dOrT, dAnd, dOr, dNot, dNeg, dTup, dLst, dPar, dAsg, dSetIx, dApp, dLenS, dIxS, atL, res, resA, lift, wb, R.bind, R.bind_ok, R.bind_exc, tN, tNil', tCons', tTup', tSq', gSqL, gSqT, gAddI, gSubI, gMulI, gDivI, gModI, gAbs, gInt, gLen, gMax, gMin, gGt, gLt, gGe, gLe, List.map_cons, List.map_nil, List.length_cons, List.length_nil, List.replicate_succ, List.replicate_zero, List.cons_append, List.nil_append, List.append_nil, List.getElem?_cons_zero, List.getElem?_cons_succ, List.getElem?_nil, List.set_cons_zero, List.set_cons_succ, Option.join_some, Option.join_none, Option.bind_some, Option.bind_none, Nat.zero_add, Nat.reduceAdd, Nat.reduceSub, Nat.sub_zero, if_true, Bool.false_eq_true, if_false, ite_true, ite_false, gSet0, gSet1, gSet2, gIx0, gIx1, gIx2, gIxL0, gIxL1, gIxL2, gCmp, decide_true, decide_false, Bool.not_true, Bool.not_false, Option.map_some, liftL, iVal, iArg, n1, g1, g2, m1, a1, a2]) ⟨none, none, rfl⟩
  subst hr
  have hlen : (enumD 0 (ps.map fr)).length = ps.length := by simp [enumD]
  rw [hlen, Nat.zero_add] at e1
  exact ⟨x9, x10, e1⟩
/-- a beat of a row with a pane -/
theorem wayN_D (w : Rat) (ps : List Rat) (S : WS) : wayD (wayN w ps S) = (List.range (rooms_n w ps)).map fun k => .tuple [fr (rig ps S k), fr (lefW w ps S (k + 1))] := by
  unfold wayD wayN
  rw [List.map_map]
  rfl
theorem wall_q {w : Int} : ((w : Rat) = 0) ↔ w = 0 := by
  constructor
  · intro h; exact_mod_cast h
  · intro h; subst h; rfl
theorem gMulL1 {a : D} : gMul (.list [a]) (.int 1) = some (.list [a]) := gMulLn (k := 1) (by decide)
theorem gMulLz {a : D} : gMul (.list [a]) (.int 0) = some (.list []) := gMulLn (k := 0) (by decide)
theorem smm_a {ways : WS} {a : Rat} (hl : ways.length + 2 ≤ lim) : gAdd (.list [.tuple [fr a, fr 0]]) (.list (wayD ways)) = some (.list (.tuple [fr a, fr 0] :: wayD ways)) := gAddL (by rw [wayD_len]; simp; omega)
theorem smm_0 {w : Rat} (h : w = 0) {ways : WS} {a b : Rat} (hl : ways.length + 2 ≤ lim) : gAdd (.list (.tuple [fr a, fr 0] :: wayD ways)) (.list [.tuple [fr 0, fr b]]) = some (.list (wayD (smm w ways a b))) := by
  rw [gAddL (by rw [List.length_cons, wayD_len]; simp; omega)]
  unfold smm wayD
  rw [if_pos h]
  simp
theorem smm_1 {w : Rat} (h : w ≠ 0) {ways : WS} {a b : Rat} (hl : ways.length + 2 ≤ lim) : gAdd (.list (.tuple [fr a, fr 0] :: wayD ways)) (.list []) = some (.list (wayD (smm w ways a b))) := by
  rw [gAddL (by rw [List.length_cons, wayD_len]; simp; omega)]
  unfold smm wayD
  rw [if_neg h]
  simp
def beatD (w : Rat) (ps : List Rat) (ways : WS) (a b : Rat) : D :=
  match ps with
  | [] => if w = 0 then .tuple [.list [], fr b, fr a] else .tuple [.list [], fr (w * a), fr 0]
  | _ :: _ => .tuple [.list (wayD (wayN w ps (smm w ways a b))), fr (lef ps (smm w ways a b) 0), fr (if w = 0 then rig ps (smm w ways a b) (ps.length - 1) else 0)]
theorem rowD_get0 {ps : List Rat} {w : Int} : gIx (rowD ps w) (.int 0) = some (.tuple (ps.map fr)) := gIx0
theorem rowD_get1 {ps : List Rat} {w : Int} : gIx (rowD ps w) (.int 1) = some (.int w) := gIx1
theorem rowD_sq {ps : List Rat} {w : Int} : gSq (rowD ps w) = some [.tuple (ps.map fr), .int w] := rfl
theorem sem_beat {ps : List Rat} {w : Int} {ways : WS} {a b : Rat} {N M : Nat} (hw : w = 0 ∨ w = 1 ∨ w = -1) (hways : ∀ x ∈ ways, Sm N x.1 ∧ Sm N x.2) (ha : Sm N a) (hb : Sm N b) (hp : ∀ p ∈ ps, Sm M p) (hN : 2 * M + 2 * N < 7900) (h1 : 1 ≤ N) (hl : ways.length = rooms_n (w : Rat) ps) (hlen : ps.length ≤ 1000) :
    fn_law_beat [rowD ps w, .list (wayD ways), .tuple [fr a, fr b]] = .ok (beatD (w : Rat) ps ways a b) [] := by
  have lm : lim = 1000000 := rfl
  have fw := fr_int w
  have hlw : ways.length ≤ ps.length := by rw [hl]; unfold rooms_n; omega
  have sa := smm_a (ways := ways) (a := a) (by omega)
  have i0 : gEq (.int w) (.int 0) = some (.bool (decide (w = 0))) := eq_ints w 0
  have i1 : gNe (.int w) (.int 0) = some (.bool (!decide (w = 0))) := gNe_int w 0
  have i2 : gEq (.int ((ps.length : Nat) : Int)) (.int 0) = some (.bool (decide (((ps.length : Nat) : Int) = 0))) := eq_ints _ 0
  have sw : Sm 2 (w : Rat) := by rcases hw with rfl | rfl | rfl <;> exact ⟨by decide +kernel, by decide +kernel⟩
  have hml : (ps.map fr).length = ps.length := List.length_map _
  by_cases hps : ps = []
  · subst hps
    have t1 : fn_law_times [fr (w : Rat), fr a] = .ok (fr ((w : Rat) * a)) [] := sem_law_times (by omega)
    have hd : gEq (.int ((0 : Nat) : Int)) (.int 0) = some (.bool true) := eq_ints _ 0
    by_cases h0 : w = 0
    · have hq : (w : Rat) = 0 := wall_q.mpr h0
      have sb := smm_0 hq (ways := ways) (a := a) (b := b) (by omega)
      simp only [fn_law_beat, den_law_beat, rowD_sq, gSeq, fnD, dSeq, dSet, dRet, dRetS, dRetN, dCall, dCallB, dCallO, dCons, dNil, dVar, dSlot, dC, dOp, dIf, dIfS, dNx, dTest, dNotT, dAndT, dOrT, dAnd, dOr, dNot, dNeg, dTup, dLst, dPar, dAsg, dSetIx, dApp, dLenS, dIxS, atL, res, resA, lift, wb, R.bind, R.bind_ok, R.bind_exc, tN, tNil', tCons', tTup', tSq', gSqL, gSqT, gAddI, gSubI, gMulI, gDivI, gModI, gAbs, gInt, gLen, gMax, gMin, gGt, gLt, gGe, gLe, List.map_cons, List.map_nil, List.length_cons, List.length_nil, List.replicate_succ, List.replicate_zero, List.cons_append, List.nil_append, List.append_nil, List.getElem?_cons_zero, List.getElem?_cons_succ, List.getElem?_nil, List.set_cons_zero, List.set_cons_succ, Option.join_some, Option.join_none, Option.bind_some, Option.bind_none, Nat.zero_add, Nat.reduceAdd, Nat.reduceSub, Nat.sub_zero, if_true, Bool.false_eq_true, if_false, ite_true, ite_false, gSet0, gSet1, gSet2, gIx0, gIx1, gIx2, gIxL0, gIxL1, gIxL2, gCmp, decide_true, decide_false, Bool.not_true, Bool.not_false, Option.map_some, liftL, iVal, iArg, lit_zero, hml, i0, i1, i2, hd, decide_eq_true h0, sa, gMulL1, sb, beatD, if_pos hq]
    · have hq : ¬ ((w : Rat) = 0) := fun z => h0 (wall_q.mp z)
      have sb := smm_1 hq (ways := ways) (a := a) (b := b) (by omega)
      simp only [fn_law_beat, den_law_beat, rowD_sq, gSeq, fnD, dSeq, dSet, dRet, dRetS, dRetN, dCall, dCallB, dCallO, dCons, dNil, dVar, dSlot, dC, dOp, dIf, dIfS, dNx, dTest, dNotT, dAndT, dOrT, dAnd, dOr, dNot, dNeg, dTup, dLst, dPar, dAsg, dSetIx, dApp, dLenS, dIxS, atL, res, resA, lift, wb, R.bind, R.bind_ok, R.bind_exc, tN, tNil', tCons', tTup', tSq', gSqL, gSqT, gAddI, gSubI, gMulI, gDivI, gModI, gAbs, gInt, gLen, gMax, gMin, gGt, gLt, gGe, gLe, List.map_cons, List.map_nil, List.length_cons, List.length_nil, List.replicate_succ, List.replicate_zero, List.cons_append, List.nil_append, List.append_nil, List.getElem?_cons_zero, List.getElem?_cons_succ, List.getElem?_nil, List.set_cons_zero, List.set_cons_succ, Option.join_some, Option.join_none, Option.bind_some, Option.bind_none, Nat.zero_add, Nat.reduceAdd, Nat.reduceSub, Nat.sub_zero, if_true, Bool.false_eq_true, if_false, ite_true, ite_false, gSet0, gSet1, gSet2, gIx0, gIx1, gIx2, gIxL0, gIxL1, gIxL2, gCmp, decide_true, decide_false, Bool.not_true, Bool.not_false, Option.map_some, liftL, iVal, iArg, lit_zero, hml, i0, i1, i2, hd, decide_eq_false h0, sa, gMulLz, sb, fw, t1, beatD, if_neg hq]
  · have hn : 0 < ps.length := List.length_pos_iff.mpr hps
    have hd : decide ((ps.length : Int) = 0) = false := decide_eq_false (by omega)
    have hS : ∀ x ∈ smm (w : Rat) ways a b, Sm N x.1 ∧ Sm N x.2 := fun x hx => by
      have z0 : Sm N (0 : Rat) := Sm.zero.le h1
      unfold smm at hx
      rcases List.mem_append.mp hx with hx | hx
      · rcases List.mem_cons.mp hx with rfl | hx
        · exact ⟨ha, z0⟩
        · exact hways x hx
      · split at hx
        · simp only [List.mem_cons, List.not_mem_nil, or_false] at hx
          subst hx
          exact ⟨z0, hb⟩
        · cases hx
    have hSl : (smm (w : Rat) ways a b).length = ps.length + 1 := by
      unfold smm
      rw [List.length_append, List.length_cons, hl]
      unfold rooms_n
      split <;> simp <;> omega
    have bd : beatD (w : Rat) ps ways a b = .tuple [.list (wayD (wayN (w : Rat) ps (smm (w : Rat) ways a b))), fr (lef ps (smm (w : Rat) ways a b) 0), fr (if (w : Rat) = 0 then rig ps (smm (w : Rat) ways a b) (ps.length - 1) else 0)] := by
      cases ps with
      | nil => exact absurd rfl hps
      | cons => rfl
    rw [bd]
    generalize hSe : smm (w : Rat) ways a b = S at hS hSl ⊢
    have r1 : gRepL (.list [fr 0]) (.int ((ps.length : Int) + 2)) = some (pl (lefP ps S 0) (ps.length + 2)) := by
      rw [show (ps.length : Int) + 2 = ((ps.length + 2 : Nat) : Int) by omega, gRepLn (by omega), pl_zero fun j _ => rfl]
    have r2 : gRepL (.list [fr 0]) (.int ((ps.length : Int) + 2)) = some (pl (rigP ps S 0) (ps.length + 2)) := by
      rw [show (ps.length : Int) + 2 = ((ps.length + 2 : Nat) : Int) by omega, gRepLn (by omega), pl_zero fun j _ => by show (if 0 < j ∧ j ≤ 0 then _ else _) = _; rw [if_neg (by omega)]]
    have gl0 : gIx (.list (pl (lefP ps S ps.length) (ps.length + 2))) (.int 0) = some (fr ((lefP ps S ps.length).c 0)) := gIxLn (i := 0) (pl_get (by omega))
    have gE : gEnK [.tuple (ps.map fr)] = some (enumD 0 (ps.map fr)) := rfl
    have p0 : pl (lefP ps S 0) (ps.length + 2) = pl (rigP ps S 0) (ps.length + 2) := by
      rw [pl_zero fun j _ => rfl, pl_zero fun j _ => by show (if 0 < j ∧ j ≤ 0 then _ else _) = _; rw [if_neg (by omega)]]
    obtain ⟨x9, x10, e1⟩ := beat_loop (x0 := some (rowD ps w)) (x1 := some (.list (wayD ways))) (x2 := some (.tuple [fr a, fr b])) (x3 := some (.tuple (ps.map fr))) (x4 := some (.int w)) (x5 := some (.int (ps.length : Int))) (x11 := none) hS hp hN hSl
    rw [← p0] at e1
    by_cases h0 : w = 0
    · have hq : (w : Rat) = 0 := wall_q.mpr h0
      have sb := smm_0 hq (ways := ways) (a := a) (b := b) (by omega)
      rw [hSe] at sb
      have rg : gRange2 [.int 1, .int (ps.length : Int)] = some (rangeD ((1 : Nat) : Int) (ps.length - 1)) := by
        show (if _ ∧ _ then some (rangeD 1 ((ps.length : Int) - 1).toNat) else none) = _
        rw [if_pos ⟨by decide, by omega⟩, show ((ps.length : Int) - 1).toNat = ps.length - 1 by omega]
        rfl
      have gr := gIxLn (xs := pl (rigP ps S ps.length) (ps.length + 2)) (i := ps.length) (pl_get (by omega))
      have v1 : (rigP ps S ps.length).c ps.length = rig ps S (ps.length - 1) := by show (if _ then _ else _) = _; rw [if_pos (by omega)]
      have v0 : (lefP ps S ps.length).c 0 = lef ps S 0 := by show (if _ then _ else _) = _; rw [if_pos hn]
      rw [v1] at gr
      rw [v0] at gl0
      have lc := lc_range (vs := [11]) (fi := iRange2 (dCons (dC (.int 1)) (dCons (dVar 5) dNil))) (tg := tN 11) (te := dTup (dCons (dOp (some 8) none gIx (dSlot 8) (dVar 11)) (dCons (dOp (some 7) none gIx (dSlot 7) (dVar 11)) dNil)))
        (ρ := [some (rowD ps w), some (.list (wayD ways)), some (.tuple [fr a, fr b]), some (.tuple (ps.map fr)), some (.int w), some (.int (ps.length : Int)), some (.list (wayD S)), some (.list (pl (lefP ps S ps.length) (ps.length + 2))), some (.list (pl (rigP ps S ps.length) (ps.length + 2))), x9, x10, none]) (lo := 1) (n := ps.length - 1)
        (fun k => .tuple [fr (rig ps S k), fr (lefW (w : Rat) ps S (k + 1))]) (by simp only [iRange2, fnD, dSeq, dSet, dRet, dRetS, dRetN, dCall, dCallB, dCallO, dCons, dNil, dVar, dSlot, dC, dOp, dIf, dIfS, dNx, dTest, dNotT, dAndT, dOrT, dAnd, dOr, dNot, dNeg, dTup, dLst, dPar, dAsg, dSetIx, dApp, dLenS, dIxS, atL, res, resA, lift, wb, R.bind, R.bind_ok, R.bind_exc, tN, tNil', tCons', tTup', tSq', gSqL, gSqT, gAddI, gSubI, gMulI, gDivI, gModI, gAbs, gInt, gLen, gMax, gMin, gGt, gLt, gGe, gLe, List.map_cons, List.map_nil, List.length_cons, List.length_nil, List.replicate_succ, List.replicate_zero, List.cons_append, List.nil_append, List.append_nil, List.getElem?_cons_zero, List.getElem?_cons_succ, List.getElem?_nil, List.set_cons_zero, List.set_cons_succ, Option.join_some, Option.join_none, Option.bind_some, Option.bind_none, Nat.zero_add, Nat.reduceAdd, Nat.reduceSub, Nat.sub_zero, if_true, Bool.false_eq_true, if_false, ite_true, ite_false, gSet0, gSet1, gSet2, gIx0, gIx1, gIx2, gIxL0, gIxL1, gIxL2, gCmp, decide_true, decide_false, Bool.not_true, Bool.not_false, Option.map_some, liftL, iVal, iArg, rg]) (by omega) (fun i hi => by
          have g1 := gIxLn (xs := pl (rigP ps S ps.length) (ps.length + 2)) (i := 1 + i) (pl_get (by omega))
          have g2 := gIxLn (xs := pl (lefP ps S ps.length) (ps.length + 2)) (i := 1 + i) (pl_get (by omega))
          have w1 : (rigP ps S ps.length).c (1 + i) = rig ps S i := by show (if _ then rig ps S (1 + i - 1) else _) = _; rw [if_pos (by omega), Nat.add_sub_cancel_left]
          have w2 : (lefP ps S ps.length).c (1 + i) = lefW (w : Rat) ps S (i + 1) := by
            unfold lefW
            show (if 1 + i < ps.length then lef ps S (1 + i) else 0) = _
            rw [if_pos (by omega), if_pos (by omega), Nat.add_comm]
          rw [w1] at g1
          rw [w2] at g2
          refine ⟨_, rfl, rfl, ?_⟩
          simp only [wipeR, fnD, dSeq, dSet, dRet, dRetS, dRetN, dCall, dCallB, dCallO, dCons, dNil, dVar, dSlot, dC, dOp, dIf, dIfS, dNx, dTest, dNotT, dAndT, dOrT, dAnd, dOr, dNot, dNeg, dTup, dLst, dPar, dAsg, dSetIx, dApp, dLenS, dIxS, atL, res, resA, lift, wb, R.bind, R.bind_ok, R.bind_exc, tN, tNil', tCons', tTup', tSq', gSqL, gSqT, gAddI, gSubI, gMulI, gDivI, gModI, gAbs, gInt, gLen, gMax, gMin, gGt, gLt, gGe, gLe, List.map_cons, List.map_nil, List.length_cons, List.length_nil, List.replicate_succ, List.replicate_zero, List.cons_append, List.nil_append, List.append_nil, List.getElem?_cons_zero, List.getElem?_cons_succ, List.getElem?_nil, List.set_cons_zero, List.set_cons_succ, Option.join_some, Option.join_none, Option.bind_some, Option.bind_none, Nat.zero_add, Nat.reduceAdd, Nat.reduceSub, Nat.sub_zero, if_true, Bool.false_eq_true, if_false, ite_true, ite_false, gSet0, gSet1, gSet2, gIx0, gIx1, gIx2, gIxL0, gIxL1, gIxL2, gCmp, decide_true, decide_false, Bool.not_true, Bool.not_false, Option.map_some, liftL, iVal, iArg, g1, g2])
      have rn : rooms_n (w : Rat) ps = ps.length - 1 := by unfold rooms_n; rw [if_pos hq]
      rw [wayN_D, rn, if_pos hq]
      simp only [fn_law_beat, den_law_beat, rowD_sq, gSeq, dOpL, dFor, iEnM, iArg, fnD, dSeq, dSet, dRet, dRetS, dRetN, dCall, dCallB, dCallO, dCons, dNil, dVar, dSlot, dC, dOp, dIf, dIfS, dNx, dTest, dNotT, dAndT, dOrT, dAnd, dOr, dNot, dNeg, dTup, dLst, dPar, dAsg, dSetIx, dApp, dLenS, dIxS, atL, res, resA, lift, wb, R.bind, R.bind_ok, R.bind_exc, tN, tNil', tCons', tTup', tSq', gSqL, gSqT, gAddI, gSubI, gMulI, gDivI, gModI, gAbs, gInt, gLen, gMax, gMin, gGt, gLt, gGe, gLe, List.map_cons, List.map_nil, List.length_cons, List.length_nil, List.replicate_succ, List.replicate_zero, List.cons_append, List.nil_append, List.append_nil, List.getElem?_cons_zero, List.getElem?_cons_succ, List.getElem?_nil, List.set_cons_zero, List.set_cons_succ, Option.join_some, Option.join_none, Option.bind_some, Option.bind_none, Nat.zero_add, Nat.reduceAdd, Nat.reduceSub, Nat.sub_zero, if_true, Bool.false_eq_true, if_false, ite_true, ite_false, gSet0, gSet1, gSet2, gIx0, gIx1, gIx2, gIxL0, gIxL1, gIxL2, gCmp, decide_true, decide_false, Bool.not_true, Bool.not_false, Option.map_some, liftL, iVal, iArg, lit_zero, hml, i0, i1, i2, hd, decide_eq_true h0, sa, gMulL1, sb, r1, gE, e1, lc, gl0, gr]
    · have hq : ¬ ((w : Rat) = 0) := fun z => h0 (wall_q.mp z)
      have sb := smm_1 hq (ways := ways) (a := a) (b := b) (by omega)
      rw [hSe] at sb
      have rg : gRange2 [.int 1, .int ((ps.length : Int) + 1)] = some (rangeD ((1 : Nat) : Int) ps.length) := by
        show (if _ ∧ _ then some (rangeD 1 ((ps.length : Int) + 1 - 1).toNat) else none) = _
        rw [if_pos ⟨by decide, by omega⟩, show ((ps.length : Int) + 1 - 1).toNat = ps.length by omega]
        rfl
      have mem : ∀ j, j < S.length → S.getD j (0, 0) ∈ S := fun j hj => by rw [List.getD_eq_getElem?_getD, List.getElem?_eq_getElem hj]; exact List.getElem_mem hj
      have s1 := (hS _ (mem ps.length (by omega))).1
      have t1 : fn_law_times [fr (w : Rat), fr (S.getD ps.length (0, 0)).1] = .ok (fr ((w : Rat) * (S.getD ps.length (0, 0)).1)) [] := sem_law_times (by omega)
      have gs := gIxLn (xs := wayD S) (i := ps.length) (wayD_get (by omega))
      have a1 := gSetLn (xs := pl (lefP ps S ps.length) (ps.length + 2)) (i := ps.length) (x := fr ((w : Rat) * (S.getD ps.length (0, 0)).1)) (by rw [pl_len]; omega)
      rw [pl_set (G := ⟨fun j => if j ≤ ps.length then lefW (w : Rat) ps S j else 0⟩) (by omega) (fun j hj => by
        show (if j ≤ ps.length then lefW (w : Rat) ps S j else 0) = if j = ps.length then ((w : Rat) * (S.getD ps.length (0, 0)).1) else if j < ps.length then lef ps S j else 0
        unfold lefW
        by_cases e : j = ps.length
        · rw [if_pos (by omega), if_pos e, if_neg (by omega), e]
        · rw [if_neg e]
          by_cases h : j < ps.length
          · rw [if_pos (by omega), if_pos h, if_pos h]
          · rw [if_neg (by omega), if_neg h])] at a1
      have gl0 : gIx (.list (pl ⟨fun j => if j ≤ ps.length then lefW (w : Rat) ps S j else 0⟩ (ps.length + 2))) (.int 0) = some (fr ((⟨fun j => if j ≤ ps.length then lefW (w : Rat) ps S j else 0⟩ : PS).c 0)) := gIxLn (i := 0) (pl_get (by omega))
      have v0 : (⟨fun j => if j ≤ ps.length then lefW (w : Rat) ps S j else 0⟩ : PS).c 0 = lef ps S 0 := by
        show (if 0 ≤ ps.length then lefW (w : Rat) ps S 0 else 0) = _
        unfold lefW
        rw [if_pos (by omega), if_pos hn]
      rw [v0] at gl0
      have lc := lc_range (vs := [11]) (fi := iRange2 (dCons (dC (.int 1)) (dCons (dOp none none gAdd (dVar 5) (dC (.int 1))) dNil))) (tg := tN 11) (te := dTup (dCons (dOp (some 8) none gIx (dSlot 8) (dVar 11)) (dCons (dOp (some 7) none gIx (dSlot 7) (dVar 11)) dNil)))
        (ρ := [some (rowD ps w), some (.list (wayD ways)), some (.tuple [fr a, fr b]), some (.tuple (ps.map fr)), some (.int w), some (.int (ps.length : Int)), some (.list (wayD S)), some (.list (pl ⟨fun j => if j ≤ ps.length then lefW (w : Rat) ps S j else 0⟩ (ps.length + 2))), some (.list (pl (rigP ps S ps.length) (ps.length + 2))), x9, x10, none]) (lo := 1) (n := ps.length)
        (fun k => .tuple [fr (rig ps S k), fr (lefW (w : Rat) ps S (k + 1))]) (by simp only [iRange2, fnD, dSeq, dSet, dRet, dRetS, dRetN, dCall, dCallB, dCallO, dCons, dNil, dVar, dSlot, dC, dOp, dIf, dIfS, dNx, dTest, dNotT, dAndT, dOrT, dAnd, dOr, dNot, dNeg, dTup, dLst, dPar, dAsg, dSetIx, dApp, dLenS, dIxS, atL, res, resA, lift, wb, R.bind, R.bind_ok, R.bind_exc, tN, tNil', tCons', tTup', tSq', gSqL, gSqT, gAddI, gSubI, gMulI, gDivI, gModI, gAbs, gInt, gLen, gMax, gMin, gGt, gLt, gGe, gLe, List.map_cons, List.map_nil, List.length_cons, List.length_nil, List.replicate_succ, List.replicate_zero, List.cons_append, List.nil_append, List.append_nil, List.getElem?_cons_zero, List.getElem?_cons_succ, List.getElem?_nil, List.set_cons_zero, List.set_cons_succ, Option.join_some, Option.join_none, Option.bind_some, Option.bind_none, Nat.zero_add, Nat.reduceAdd, Nat.reduceSub, Nat.sub_zero, if_true, Bool.false_eq_true, if_false, ite_true, ite_false, gSet0, gSet1, gSet2, gIx0, gIx1, gIx2, gIxL0, gIxL1, gIxL2, gCmp, decide_true, decide_false, Bool.not_true, Bool.not_false, Option.map_some, liftL, iVal, iArg, rg]) (by omega) (fun i hi => by
          have g1 := gIxLn (xs := pl (rigP ps S ps.length) (ps.length + 2)) (i := 1 + i) (pl_get (by omega))
          have g2 := gIxLn (xs := pl ⟨fun j => if j ≤ ps.length then lefW (w : Rat) ps S j else 0⟩ (ps.length + 2)) (i := 1 + i) (pl_get (by omega))
          have w1 : (rigP ps S ps.length).c (1 + i) = rig ps S i := by show (if _ then rig ps S (1 + i - 1) else _) = _; rw [if_pos (by omega), Nat.add_sub_cancel_left]
          have w2 : (⟨fun j => if j ≤ ps.length then lefW (w : Rat) ps S j else 0⟩ : PS).c (1 + i) = lefW (w : Rat) ps S (i + 1) := by
            show (if 1 + i ≤ ps.length then lefW _ ps S (1 + i) else 0) = _
            rw [if_pos (by omega), Nat.add_comm]
          rw [w1] at g1
          rw [w2] at g2
          refine ⟨_, rfl, rfl, ?_⟩
          simp only [wipeR, fnD, dSeq, dSet, dRet, dRetS, dRetN, dCall, dCallB, dCallO, dCons, dNil, dVar, dSlot, dC, dOp, dIf, dIfS, dNx, dTest, dNotT, dAndT, dOrT, dAnd, dOr, dNot, dNeg, dTup, dLst, dPar, dAsg, dSetIx, dApp, dLenS, dIxS, atL, res, resA, lift, wb, R.bind, R.bind_ok, R.bind_exc, tN, tNil', tCons', tTup', tSq', gSqL, gSqT, gAddI, gSubI, gMulI, gDivI, gModI, gAbs, gInt, gLen, gMax, gMin, gGt, gLt, gGe, gLe, List.map_cons, List.map_nil, List.length_cons, List.length_nil, List.replicate_succ, List.replicate_zero, List.cons_append, List.nil_append, List.append_nil, List.getElem?_cons_zero, List.getElem?_cons_succ, List.getElem?_nil, List.set_cons_zero, List.set_cons_succ, Option.join_some, Option.join_none, Option.bind_some, Option.bind_none, Nat.zero_add, Nat.reduceAdd, Nat.reduceSub, Nat.sub_zero, if_true, Bool.false_eq_true, if_false, ite_true, ite_false, gSet0, gSet1, gSet2, gIx0, gIx1, gIx2, gIxL0, gIxL1, gIxL2, gCmp, decide_true, decide_false, Bool.not_true, Bool.not_false, Option.map_some, liftL, iVal, iArg, g1, g2])
      have rn : rooms_n (w : Rat) ps = ps.length := by unfold rooms_n; rw [if_neg hq]; rfl
      rw [wayN_D, rn, if_neg hq]
      simp only [fn_law_beat, den_law_beat, rowD_sq, gSeq, dOpL, dFor, iEnM, iArg, fnD, dSeq, dSet, dRet, dRetS, dRetN, dCall, dCallB, dCallO, dCons, dNil, dVar, dSlot, dC, dOp, dIf, dIfS, dNx, dTest, dNotT, dAndT, dOrT, dAnd, dOr, dNot, dNeg, dTup, dLst, dPar, dAsg, dSetIx, dApp, dLenS, dIxS, atL, res, resA, lift, wb, R.bind, R.bind_ok, R.bind_exc, tN, tNil', tCons', tTup', tSq', gSqL, gSqT, gAddI, gSubI, gMulI, gDivI, gModI, gAbs, gInt, gLen, gMax, gMin, gGt, gLt, gGe, gLe, List.map_cons, List.map_nil, List.length_cons, List.length_nil, List.replicate_succ, List.replicate_zero, List.cons_append, List.nil_append, List.append_nil, List.getElem?_cons_zero, List.getElem?_cons_succ, List.getElem?_nil, List.set_cons_zero, List.set_cons_succ, Option.join_some, Option.join_none, Option.bind_some, Option.bind_none, Nat.zero_add, Nat.reduceAdd, Nat.reduceSub, Nat.sub_zero, if_true, Bool.false_eq_true, if_false, ite_true, ite_false, gSet0, gSet1, gSet2, gIx0, gIx1, gIx2, gIxL0, gIxL1, gIxL2, gCmp, decide_true, decide_false, Bool.not_true, Bool.not_false, Option.map_some, liftL, iVal, iArg, lit_zero, hml, i0, i1, i2, hd, decide_eq_false h0, sa, gMulLz, sb, r1, gE, e1, fw, gs, t1, a1, lc, gl0]
end Dn


/-! Sw4: waves heard, the echo by waves. -/
namespace Dn
open PySem PySem.Spec PyProof.Rows L2 PS
def clF (cs : WS) : Nat → Rat := fun t => (cs.getD t (0, 0)).1
def crF (cs : WS) : Nat → Rat := fun t => (cs.getD t (0, 0)).2
theorem beatD_next (w : Rat) (ps : List Rat) (cl cr : Nat → Rat) (t : Nat) : beatD w ps (wayT w ps cl cr t) (cl t) (cr t) = .tuple [.list (wayD (wayT w ps cl cr (t + 1))), fr (hearL w ps cl cr t), fr (hearR w ps cl cr t)] := by
  cases ps with
  | nil =>
    have e : wayT w [] cl cr (t + 1) = [] := by
      refine List.eq_nil_of_length_eq_zero ?_
      rw [wayT_len]
      unfold rooms_n
      simp
    rw [e]
    show (if w = 0 then _ else _) = PyData.tuple [.list [], fr (if w = 0 then cr t else w * cl t), fr (if w = 0 then cl t else 0)]
    split <;> rfl
  | cons p ps => rfl
def toldD (w : Rat) (ps : List Rat) (cl cr : Nat → Rat) (n : Nat) : List D := (List.range n).map fun t => .tuple [fr (hearL w ps cl cr t), fr (hearR w ps cl cr t)]
theorem toldD_len (w : Rat) (ps : List Rat) (cl cr : Nat → Rat) (n : Nat) : (toldD w ps cl cr n).length = n := by unfold toldD; rw [List.length_map, List.length_range]
theorem toldD_get {w : Rat} {ps : List Rat} {cl cr : Nat → Rat} {n t : Nat} (h : t < n) : (toldD w ps cl cr n)[t]? = some (.tuple [fr (hearL w ps cl cr t), fr (hearR w ps cl cr t)]) := by
  unfold toldD
  rw [List.getElem?_map, List.getElem?_range h]
  rfl
theorem toldD_succ (w : Rat) (ps : List Rat) (cl cr : Nat → Rat) (n : Nat) : toldD w ps cl cr (n + 1) = toldD w ps cl cr n ++ [.tuple [fr (hearL w ps cl cr n), fr (hearR w ps cl cr n)]] := by unfold toldD; rw [List.range_succ, List.map_append]; rfl
theorem sem_heard {E k e m b : Nat} (hE : Bot E k e) {ps : List Rat} {w : Int} {cs : WS} {many : Nat} (hw : w = 0 ∨ w = 1 ∨ w = -1) (hp : ∀ p ∈ ps, Lw E 1 0 p) (hc : ∀ x ∈ cs, LwP E m b x) (hl : many ≤ 1000) (hlp : ps.length ≤ 1000) (hlc : cs.length ≤ 1000)
    (hN : 2 * (e + 1) + 2 * (e * (m + many) + (b + 2 * many) + 1) < 7900) : fn_law_heard [rowD ps w, .list (wayD cs), .int (many : Int)] = .ok (.list (toldD (w : Rat) ps (clF cs) (crF cs) many)) [] := by
  have lm : lim = 1000000 := rfl
  have hw' := lw_wall (E := E) hw
  have i0 : gEq (.int w) (.int 0) = some (.bool (decide (w = 0))) := eq_ints w 0
  have hml : (ps.map fr).length = ps.length := List.length_map _
  have hcl : ∀ t, Lw E m b (clF cs t) := fun t => (lwp_getD hc t).1
  have hcr : ∀ t, Lw E m b (crF cs t) := fun t => (lwp_getD hc t).2
  have hways := lwp_wayT hw' hp hcl hcr
  obtain ⟨r, e1, x5, x6, x7, x8, hr⟩ := forD_run (tg := tN 5) (f := den_law_heard_b0)
    (fun t r => ∃ x5 x6 x7 x8, r = [some (rowD ps w), some (.list (wayD cs)), some (.int (many : Int)), some (.list (wayD (wayT (w : Rat) ps (clF cs) (crF cs) t))), some (.list (toldD (w : Rat) ps (clF cs) (crF cs) t)), x5, x6, x7, x8])
    (rangeD 0 many) 0 [some (rowD ps w), some (.list (wayD cs)), some (.int (many : Int)), some (.list (wayD (wayT (w : Rat) ps (clF cs) (crF cs) 0))), some (.list []), none, none, none, none] (fun t d ρ hd hI => by
      obtain ⟨x5, x6, x7, x8, rfl⟩ := hI
      obtain ⟨rfl, ht⟩ := rangeD_at hd
      rw [Int.zero_add, Nat.zero_add]
      have le : e * (m + t) + (b + 2 * t) + 1 ≤ e * (m + many) + (b + 2 * many) + 1 := by
        have := Nat.mul_le_mul_left e (show m + t ≤ m + many by omega)
        omega
      have q1 : dIf (dTest (dOp none none gLt (dVar 5) (dCallB [none] gLen (dCons (dVar 1) dNil)))) (dOp none none gIx (dVar 1) (dVar 5)) (dTup (dCons (dTup (dCons (dC (.int 0)) (dCons (dC (.int 1)) dNil))) (dCons (dTup (dCons (dC (.int 0)) (dCons (dC (.int 1)) dNil))) dNil))) [some (rowD ps w), some (.list (wayD cs)), some (.int (many : Int)), some (.list (wayD (wayT (w : Rat) ps (clF cs) (crF cs) t))), some (.list (toldD (w : Rat) ps (clF cs) (crF cs) t)), some (.int (t : Int)), x6, x7, x8] =
          .ok (.tuple [fr (clF cs t), fr (crF cs t)]) [some (rowD ps w), some (.list (wayD cs)), some (.int (many : Int)), some (.list (wayD (wayT (w : Rat) ps (clF cs) (crF cs) t))), some (.list (toldD (w : Rat) ps (clF cs) (crF cs) t)), some (.int (t : Int)), x6, x7, x8] := by
        by_cases h : t < cs.length
        · have g := gIxLn (xs := wayD cs) (i := t) (wayD_get h)
          simp only [fnD, dSeq, dSet, dRet, dRetS, dRetN, dCall, dCallB, dCallO, dCons, dNil, dVar, dSlot, dC, dOp, dIf, dIfS, dNx, dTest, dNotT, dAndT, dOrT, dAnd, dOr, dNot, dNeg, dTup, dLst, dPar, dAsg, dSetIx, dApp, dLenS, dIxS, atL, res, resA, lift, wb, R.bind, R.bind_ok, R.bind_exc, tN, tNil', tCons', tTup', tSq', gSqL, gSqT, gAddI, gSubI, gMulI, gDivI, gModI, gAbs, gInt, gLen, gMax, gMin, gGt, gLt, gGe, gLe, List.map_cons, List.map_nil, List.length_cons, List.length_nil, List.replicate_succ, List.replicate_zero, List.cons_append, List.nil_append, List.append_nil, List.getElem?_cons_zero, List.getElem?_cons_succ, List.getElem?_nil, List.set_cons_zero, List.set_cons_succ, Option.join_some, Option.join_none, Option.bind_some, Option.bind_none, Nat.zero_add, Nat.reduceAdd, Nat.reduceSub, Nat.sub_zero, if_true, Bool.false_eq_true, if_false, ite_true, ite_false, gSet0, gSet1, gSet2, gIx0, gIx1, gIx2, gIxL0, gIxL1, gIxL2, gCmp, decide_true, decide_false, Bool.not_true, Bool.not_false, Option.map_some, liftL, iVal, iArg, wayD_len, decide_eq_true (show (t : Int) < (cs.length : Int) by omega), g, clF, crF]
        · have z : cs.getD t (0, 0) = (0, 0) := by rw [List.getD_eq_getElem?_getD, List.getElem?_eq_none (by omega)]; rfl
          simp only [fnD, dSeq, dSet, dRet, dRetS, dRetN, dCall, dCallB, dCallO, dCons, dNil, dVar, dSlot, dC, dOp, dIf, dIfS, dNx, dTest, dNotT, dAndT, dOrT, dAnd, dOr, dNot, dNeg, dTup, dLst, dPar, dAsg, dSetIx, dApp, dLenS, dIxS, atL, res, resA, lift, wb, R.bind, R.bind_ok, R.bind_exc, tN, tNil', tCons', tTup', tSq', gSqL, gSqT, gAddI, gSubI, gMulI, gDivI, gModI, gAbs, gInt, gLen, gMax, gMin, gGt, gLt, gGe, gLe, List.map_cons, List.map_nil, List.length_cons, List.length_nil, List.replicate_succ, List.replicate_zero, List.cons_append, List.nil_append, List.append_nil, List.getElem?_cons_zero, List.getElem?_cons_succ, List.getElem?_nil, List.set_cons_zero, List.set_cons_succ, Option.join_some, Option.join_none, Option.bind_some, Option.bind_none, Nat.zero_add, Nat.reduceAdd, Nat.reduceSub, Nat.sub_zero, if_true, Bool.false_eq_true, if_false, ite_true, ite_false, gSet0, gSet1, gSet2, gIx0, gIx1, gIx2, gIxL0, gIxL1, gIxL2, gCmp, decide_true, decide_false, Bool.not_true, Bool.not_false, Option.map_some, liftL, iVal, iArg, wayD_len, decide_eq_false (show ¬ (t : Int) < (cs.length : Int) by omega), lit_zero, clF, crF, z]
      have bt := sem_beat (w := w) (ps := ps) (ways := wayT (w : Rat) ps (clF cs) (crF cs) t) (a := clF cs t) (b := crF cs t) (N := e * (m + many) + (b + 2 * many) + 1) (M := e * 1 + 0 + 1) hw
        (fun x hx => ⟨((hways t x hx).1.sm hE).le le, ((hways t x hx).2.sm hE).le le⟩) (((hcl t).sm hE).le (by have := Nat.mul_le_mul_left e (show m ≤ m + many by omega); omega)) (((hcr t).sm hE).le (by have := Nat.mul_le_mul_left e (show m ≤ m + many by omega); omega)) (fun p h => (hp p h).sm hE) (by omega) (by omega) (wayT_len _ _ _ _ _) hlp
      rw [beatD_next] at bt
      have ga := gAppLn (xs := toldD (w : Rat) ps (clF cs) (crF cs) t) (x := .tuple [fr (hearL (w : Rat) ps (clF cs) (crF cs) t), fr (hearR (w : Rat) ps (clF cs) (crF cs) t)]) (by rw [toldD_len]; omega)
      rw [← toldD_succ] at ga
      refine ⟨_, _, rfl, ?_, some (.int (t : Int)), some (.tuple [fr (clF cs t), fr (crF cs t)]), some (fr (hearL (w : Rat) ps (clF cs) (crF cs) t)), some (fr (hearR (w : Rat) ps (clF cs) (crF cs) t)), rfl⟩
      unfold den_law_heard_b0
      generalize (dIf (dTest (dOp none none gLt (dVar 5) (dCallB [none] gLen (dCons (dVar 1) dNil)))) (dOp none none gIx (dVar 1) (dVar 5)) (dTup (dCons (dTup (dCons (dC (.int 0)) (dCons (dC (.int 1)) dNil))) (dCons (dTup (dCons (dC (.int 0)) (dCons (dC (.int 1)) dNil))) dNil)))) = A at q1 ⊢
      simp only [fnD, dSeq, dSet, dRet, dRetS, dRetN, dCall, dCallB, dCallO, dCons, dNil, dVar, dSlot, dC, dOp, dIf, dIfS, dNx, dTest, dNotT, dAndT, dOrT, dAnd, dOr, dNot, dNeg, dTup, dLst, dPar, dAsg, dSetIx, dApp, dLenS, dIxS, atL, res, resA, lift, wb, R.bind, R.bind_ok, R.bind_exc, tN, tNil', tCons', tTup', tSq', gSqL, gSqT, gAddI, gSubI, gMulI, gDivI, gModI, gAbs, gInt, gLen, gMax, gMin, gGt, gLt, gGe, gLe, List.map_cons, List.map_nil, List.length_cons, List.length_nil, List.replicate_succ, List.replicate_zero, List.cons_append, List.nil_append, List.append_nil, List.getElem?_cons_zero, List.getElem?_cons_succ, List.getElem?_nil, List.set_cons_zero, List.set_cons_succ, Option.join_some, Option.join_none, Option.bind_some, Option.bind_none, Nat.zero_add, Nat.reduceAdd, Nat.reduceSub, Nat.sub_zero, if_true, Bool.false_eq_true, if_false, ite_true, ite_false, gSet0, gSet1, gSet2, gIx0, gIx1, gIx2, gIxL0, gIxL1, gIxL2, gCmp, decide_true, decide_false, Bool.not_true, Bool.not_false, Option.map_some, liftL, iVal, iArg, q1, bt, ga]) ⟨none, none, none, none, rfl⟩
  subst hr
  rw [rangeD_len, Nat.zero_add] at e1
  have g := gRange1_n (n := many) (by omega)
  have z0 : wayD (wayT (w : Rat) ps (clF cs) (crF cs) 0) = List.replicate (rooms_n (w : Rat) ps) (.tuple [fr 0, fr 0]) := by
    show (List.replicate _ _).map _ = _
    rw [List.map_replicate]
  by_cases h0 : w = 0
  · have hq : (w : Rat) = 0 := wall_q.mpr h0
    have g1 : gMul (.list [.tuple [fr 0, fr 0]]) (.int ((ps.length : Int) - 1)) = some (.list (wayD (wayT (w : Rat) ps (clF cs) (crF cs) 0))) := by
      rw [z0]
      unfold rooms_n
      rw [if_pos hq]
      by_cases hn : ps.length = 0
      · rw [hn]; exact gMulL0 (by decide) (by decide)
      · rw [show (ps.length : Int) - 1 = ((ps.length - 1 : Nat) : Int) by omega]
        exact gMulLn (by omega)
    simp only [fn_law_heard, den_law_heard, dFor, iRange1, dRetS, fnD, dSeq, dSet, dRet, dRetS, dRetN, dCall, dCallB, dCallO, dCons, dNil, dVar, dSlot, dC, dOp, dIf, dIfS, dNx, dTest, dNotT, dAndT, dOrT, dAnd, dOr, dNot, dNeg, dTup, dLst, dPar, dAsg, dSetIx, dApp, dLenS, dIxS, atL, res, resA, lift, wb, R.bind, R.bind_ok, R.bind_exc, tN, tNil', tCons', tTup', tSq', gSqL, gSqT, gAddI, gSubI, gMulI, gDivI, gModI, gAbs, gInt, gLen, gMax, gMin, gGt, gLt, gGe, gLe, List.map_cons, List.map_nil, List.length_cons, List.length_nil, List.replicate_succ, List.replicate_zero, List.cons_append, List.nil_append, List.append_nil, List.getElem?_cons_zero, List.getElem?_cons_succ, List.getElem?_nil, List.set_cons_zero, List.set_cons_succ, Option.join_some, Option.join_none, Option.bind_some, Option.bind_none, Nat.zero_add, Nat.reduceAdd, Nat.reduceSub, Nat.sub_zero, if_true, Bool.false_eq_true, if_false, ite_true, ite_false, gSet0, gSet1, gSet2, gIx0, gIx1, gIx2, gIxL0, gIxL1, gIxL2, gCmp, decide_true, decide_false, Bool.not_true, Bool.not_false, Option.map_some, liftL, iVal, iArg, rowD_get0, rowD_get1, hml, i0, decide_eq_true h0, lit_zero, g1, g, e1]
  · have hq : ¬ ((w : Rat) = 0) := fun z => h0 (wall_q.mp z)
    have g1 : gMul (.list [.tuple [fr 0, fr 0]]) (.int ((ps.length : Int) - 0)) = some (.list (wayD (wayT (w : Rat) ps (clF cs) (crF cs) 0))) := by
      rw [z0]
      unfold rooms_n
      rw [if_neg hq, show (ps.length : Int) - 0 = ((ps.length - 0 : Nat) : Int) by omega]
      exact gMulLn (by omega)
    simp only [fn_law_heard, den_law_heard, dFor, iRange1, dRetS, fnD, dSeq, dSet, dRet, dRetS, dRetN, dCall, dCallB, dCallO, dCons, dNil, dVar, dSlot, dC, dOp, dIf, dIfS, dNx, dTest, dNotT, dAndT, dOrT, dAnd, dOr, dNot, dNeg, dTup, dLst, dPar, dAsg, dSetIx, dApp, dLenS, dIxS, atL, res, resA, lift, wb, R.bind, R.bind_ok, R.bind_exc, tN, tNil', tCons', tTup', tSq', gSqL, gSqT, gAddI, gSubI, gMulI, gDivI, gModI, gAbs, gInt, gLen, gMax, gMin, gGt, gLt, gGe, gLe, List.map_cons, List.map_nil, List.length_cons, List.length_nil, List.replicate_succ, List.replicate_zero, List.cons_append, List.nil_append, List.append_nil, List.getElem?_cons_zero, List.getElem?_cons_succ, List.getElem?_nil, List.set_cons_zero, List.set_cons_succ, Option.join_some, Option.join_none, Option.bind_some, Option.bind_none, Nat.zero_add, Nat.reduceAdd, Nat.reduceSub, Nat.sub_zero, if_true, Bool.false_eq_true, if_false, ite_true, ite_false, gSet0, gSet1, gSet2, gIx0, gIx1, gIx2, gIxL0, gIxL1, gIxL2, gCmp, decide_true, decide_false, Bool.not_true, Bool.not_false, Option.map_some, liftL, iVal, iArg, rowD_get0, rowD_get1, hml, i0, decide_eq_false h0, lit_zero, g1, g, e1]
/-! ### comparing -/
def Shp (n : Nat) (d : D) : Prop := d.canLay0 = true ∧ d.depth ≤ n
theorem Shp.mono {n m : Nat} {d : D} (h : Shp n d) (l : n ≤ m) : Shp m d := ⟨h.1, Nat.le_trans h.2 l⟩
theorem shp_all {n : Nat} : ∀ {ds : List D}, (∀ d ∈ ds, Shp n d) → PyData.canLayAll0 ds = true ∧ PyData.depthAll ds ≤ n
  | [], _ => ⟨by simp [PyData.canLayAll0], by simp [PyData.depthAll]⟩
  | d :: ds, h => by
    obtain ⟨h1, h2⟩ := h d List.mem_cons_self
    obtain ⟨h3, h4⟩ := shp_all fun x hx => h x (List.mem_cons_of_mem _ hx)
    exact ⟨by simp [PyData.canLayAll0, h1, h3], by simp only [PyData.depthAll]; omega⟩
theorem Shp.lst {n : Nat} {ds : List D} (h : ∀ d ∈ ds, Shp n d) : Shp (n + 1) (.list ds) := ⟨by simp [PyData.canLay0, (shp_all h).1], by have := (shp_all h).2; simp only [PyData.depth]; omega⟩
theorem Shp.tup {n : Nat} {ds : List D} (h : ∀ d ∈ ds, Shp n d) : Shp (n + 1) (.tuple ds) := ⟨by simp [PyData.canLay0, (shp_all h).1], by have := (shp_all h).2; simp only [PyData.depth]; omega⟩
theorem Shp.int {n : Nat} (i : Int) : Shp n (.int i) := ⟨by simp [PyData.canLay0], by simp [PyData.depth]⟩
theorem Shp.bl {n : Nat} (b : Bool) : Shp n (.bool b) := ⟨by simp [PyData.canLay0], by simp [PyData.depth]⟩
theorem Shp.non {n : Nat} : Shp n .none := ⟨by simp [PyData.canLay0], by simp [PyData.depth]⟩
theorem Shp.fr (q : Rat) : Shp 1 (fr q) := .tup fun d hd => by
  simp only [List.mem_cons, List.not_mem_nil, or_false] at hd
  rcases hd with rfl | rfl <;> exact .int _
theorem Shp.frs (l : List Rat) : ∀ d ∈ l.map Dn.fr, Shp 1 d := fun d hd => by
  obtain ⟨q, _, rfl⟩ := List.mem_map.mp hd
  exact .fr q
theorem Shp.nil {n : Nat} : ∀ d ∈ ([] : List D), Shp n d := fun d hd => by cases hd
theorem Shp.cons {n : Nat} {x : D} {xs : List D} (h : Shp n x) (t : ∀ d ∈ xs, Shp n d) : ∀ d ∈ x :: xs, Shp n d := fun d hd => by
  rcases List.mem_cons.mp hd with rfl | hd
  · exact h
  · exact t d hd
theorem Shp.row (ps : List Rat) (w : Int) : Shp 3 (rowD ps w) := .tup (.cons (.tup (.frs ps)) (.cons (.int _) .nil))
theorem Shp.ok {n : Nat} {d : D} (h : Shp n d) (l : n ≤ 64) : SeqAt.shaped d = true := by
  unfold SeqAt.shaped
  rw [h.1, Bool.true_and]
  exact decide_eq_true (Nat.le_trans h.2 l)
theorem gEq_of {n : Nat} {d e : D} {b : Bool} (hd : Shp n d) (he : Shp n e) (h : PyData.eqv d e = b) (l : n ≤ 64 := by decide) : gEq d e = some (.bool b) := by
  show (if SeqAt.shaped d && SeqAt.shaped e then some (PyData.bool (PyData.eqv d e)) else none) = _
  rw [if_pos (by rw [hd.ok l, he.ok l]; rfl), h]
theorem gNe_of {n : Nat} {d e : D} {b : Bool} (hd : Shp n d) (he : Shp n e) (h : PyData.eqv d e = b) (l : n ≤ 64 := by decide) : gNe d e = some (.bool (!b)) := by
  show (if SeqAt.shaped d && SeqAt.shaped e then some (PyData.bool (!PyData.eqv d e)) else none) = _
  rw [if_pos (by rw [hd.ok l, he.ok l]; rfl), h]
theorem eqv_frs : ∀ l l' : List Rat, PyData.eqvAll (l.map fr) (l'.map fr) = decide (l = l')
  | [], [] => by simp [PyData.eqvAll]
  | [], _ :: _ => by simp [PyData.eqvAll]
  | _ :: _, [] => by simp [PyData.eqvAll]
  | p :: l, q :: l' => by
    simp only [List.map_cons, PyData.eqvAll, eqv_fr, eqv_frs l l']
    by_cases h1 : p = q <;> by_cases h2 : l = l' <;> simp [h1, h2]
theorem eqv_row (ps ps' : List Rat) (w w' : Int) : PyData.eqv (rowD ps w) (rowD ps' w') = decide (ps = ps' ∧ w = w') := by
  unfold rowD
  simp only [PyData.eqv, PyData.eqvAll, eqv_frs, Bool.and_true]
  by_cases h1 : ps = ps' <;> by_cases h2 : w = w' <;> simp [h1, h2]
theorem gEq_row (ps ps' : List Rat) (w w' : Int) : gEq (rowD ps w) (rowD ps' w') = some (.bool (decide (ps = ps' ∧ w = w'))) := gEq_of (.row ps w) (.row ps' w') (eqv_row _ _ _ _)
theorem gEq_frs (l l' : List Rat) : gEq (.list (l.map fr)) (.list (l'.map fr)) = some (.bool (decide (l = l'))) := gEq_of (.lst (.frs l)) (.lst (.frs l')) (by simp only [PyData.eqv, eqv_frs])
theorem gNe_frs (l l' : List Rat) : gNe (.list (l.map fr)) (.list (l'.map fr)) = some (.bool (!decide (l = l'))) := gNe_of (.lst (.frs l)) (.lst (.frs l')) (by simp only [PyData.eqv, eqv_frs])
theorem row0_D : PyData.tuple [.tuple [], .int 0] = rowD [] 0 := rfl
/-! ### the echo by waves -/
theorem one_cl : (⟨clF [(1, 0)]⟩ : PS) = 1 := ext fun n => by
  rw [one_c]
  cases n with
  | zero => rfl
  | succ n => rfl
theorem one_cr : crF [(1, 0)] = fun _ => 0 := funext fun n => by
  cases n with
  | zero => rfl
  | succ n => rfl
theorem hear_one {w : Rat} {ps : List Rat} (t : Nat) : hearL w ps (clF [(1, 0)]) (crF [(1, 0)]) (2 * t) = (Ech w ps).c t := by
  have h := hear_echo (w := w) (ps := ps) (clF [(1, 0)])
  rw [one_cl, mul_comm, one_mul] at h
  rw [one_cr, ← dbl_even, ← h]
theorem ech_nil (n : Nat) : pl (Ech 0 []) n = List.replicate n (fr 0) := pl_zero fun j _ => by unfold Ech; rw [C_c]; split <;> rfl
theorem sem_law_echo {E k e : Nat} (hE : Bot E k e) {ps : List Rat} {w : Int} {many : Nat} (hw : w = 0 ∨ w = 1 ∨ w = -1) (hp : ∀ p ∈ ps, Lw E 1 0 p) (hl : many ≤ 400) (hlp : ps.length ≤ 1000)
    (hN : 2 * (e + 1) + 2 * (e * (2 * many) + (2 * (2 * many)) + 1) < 7900) : fn_law_echo [rowD ps w, .int (many : Int)] = .ok (.list (pl (Ech w ps) many)) [] := by
  have lm : lim = 1000000 := rfl
  have g0 := gEq_row ps [] w 0
  rw [← row0_D] at g0
  by_cases h : ps = [] ∧ w = 0
  · obtain ⟨rfl, rfl⟩ := h
    have g1 : gRepL (.list [fr 0]) (.int (many : Int)) = some (List.replicate many (fr 0)) := gRepLn (by omega)
    have e1 : pl (Ech ((0 : Int) : Rat) []) many = List.replicate many (fr 0) := ech_nil many
    rw [e1]
    rw [decide_eq_true ⟨rfl, rfl⟩] at g0
    simp only [fn_law_echo, den_law_echo, dOpL, fnD, dSeq, dSet, dRet, dRetS, dRetN, dCall, dCallB, dCallO, dCons, dNil, dVar, dSlot, dC, dOp, dIf, dIfS, dNx, dTest, dNotT, dAndT, dOrT, dAnd, dOr, dNot, dNeg, dTup, dLst, dPar, dAsg, dSetIx, dApp, dLenS, dIxS, atL, res, resA, lift, wb, R.bind, R.bind_ok, R.bind_exc, tN, tNil', tCons', tTup', tSq', gSqL, gSqT, gAddI, gSubI, gMulI, gDivI, gModI, gAbs, gInt, gLen, gMax, gMin, gGt, gLt, gGe, gLe, List.map_cons, List.map_nil, List.length_cons, List.length_nil, List.replicate_succ, List.replicate_zero, List.cons_append, List.nil_append, List.append_nil, List.getElem?_cons_zero, List.getElem?_cons_succ, List.getElem?_nil, List.set_cons_zero, List.set_cons_succ, Option.join_some, Option.join_none, Option.bind_some, Option.bind_none, Nat.zero_add, Nat.reduceAdd, Nat.reduceSub, Nat.sub_zero, if_true, Bool.false_eq_true, if_false, ite_true, ite_false, gSet0, gSet1, gSet2, gIx0, gIx1, gIx2, gIxL0, gIxL1, gIxL2, gCmp, decide_true, decide_false, Bool.not_true, Bool.not_false, Option.map_some, liftL, iVal, iArg, g0, lit_zero, g1]
  · have hs := sem_heard (m := 0) (b := 0) (cs := [(1, 0)]) (many := 2 * many) hE hw hp (fun x hx => by
      simp only [List.mem_cons, List.not_mem_nil, or_false] at hx
      subst hx
      exact ⟨Lw.one, Lw.zero⟩) (by omega) hlp (by decide) (by rw [Nat.zero_add]; omega)
    have hw1 : wayD [(1, 0)] = [.tuple [fr 1, fr 0]] := rfl
    rw [hw1] at hs
    have n1 : (2 : Int) * (many : Int) = ((2 * many : Nat) : Int) := by omega
    have k1 : bits 2 + bits (many : Int) < 100000000 := by
      have := bits_lit 2 (x := 2) (by decide)
      have := bits_lit 20 (x := (many : Int)) (by omega)
      omega
    have lc := lc_range (vs := [3]) (fi := iRange1 (dCons (dVar 1) dNil)) (tg := tN 3) (te := dOp none none gIx (dOp none none gIx (dVar 2) (dOp none none gMul (dC (.int 2)) (dVar 3))) (dC (.int 0)))
      (ρ := [some (rowD ps w), some (.int (many : Int)), some (.list (toldD (w : Rat) ps (clF [(1, 0)]) (crF [(1, 0)]) (2 * many))), none]) (lo := 0) (n := many) (fun t => fr ((Ech w ps).c t)) (by
        have := gRange1_n (n := many) (by omega)
        simp only [iRange1, fnD, dSeq, dSet, dRet, dRetS, dRetN, dCall, dCallB, dCallO, dCons, dNil, dVar, dSlot, dC, dOp, dIf, dIfS, dNx, dTest, dNotT, dAndT, dOrT, dAnd, dOr, dNot, dNeg, dTup, dLst, dPar, dAsg, dSetIx, dApp, dLenS, dIxS, atL, res, resA, lift, wb, R.bind, R.bind_ok, R.bind_exc, tN, tNil', tCons', tTup', tSq', gSqL, gSqT, gAddI, gSubI, gMulI, gDivI, gModI, gAbs, gInt, gLen, gMax, gMin, gGt, gLt, gGe, gLe, List.map_cons, List.map_nil, List.length_cons, List.length_nil, List.replicate_succ, List.replicate_zero, List.cons_append, List.nil_append, List.append_nil, List.getElem?_cons_zero, List.getElem?_cons_succ, List.getElem?_nil, List.set_cons_zero, List.set_cons_succ, Option.join_some, Option.join_none, Option.bind_some, Option.bind_none, Nat.zero_add, Nat.reduceAdd, Nat.reduceSub, Nat.sub_zero, if_true, Bool.false_eq_true, if_false, ite_true, ite_false, gSet0, gSet1, gSet2, gIx0, gIx1, gIx2, gIxL0, gIxL1, gIxL2, gCmp, decide_true, decide_false, Bool.not_true, Bool.not_false, Option.map_some, liftL, iVal, iArg, this]
        rfl) (by omega) (fun i hi => by
        have g := gIxLn (xs := toldD (w : Rat) ps (clF [(1, 0)]) (crF [(1, 0)]) (2 * many)) (i := 2 * i) (toldD_get (by omega))
        rw [hear_one] at g
        have n2 : (2 : Int) * (i : Int) = ((2 * i : Nat) : Int) := by omega
        have k2 : bits 2 + bits (i : Int) < 100000000 := by
          have := bits_lit 2 (x := 2) (by decide)
          have := bits_lit 20 (x := (i : Int)) (by omega)
          omega
        refine ⟨_, rfl, rfl, ?_⟩
        simp (disch := assumption) only [wipeR, fnD, dSeq, dSet, dRet, dRetS, dRetN, dCall, dCallB, dCallO, dCons, dNil, dVar, dSlot, dC, dOp, dIf, dIfS, dNx, dTest, dNotT, dAndT, dOrT, dAnd, dOr, dNot, dNeg, dTup, dLst, dPar, dAsg, dSetIx, dApp, dLenS, dIxS, atL, res, resA, lift, wb, R.bind, R.bind_ok, R.bind_exc, tN, tNil', tCons', tTup', tSq', gSqL, gSqT, gAddI, gSubI, gMulI, gDivI, gModI, gAbs, gInt, gLen, gMax, gMin, gGt, gLt, gGe, gLe, List.map_cons, List.map_nil, List.length_cons, List.length_nil, List.replicate_succ, List.replicate_zero, List.cons_append, List.nil_append, List.append_nil, List.getElem?_cons_zero, List.getElem?_cons_succ, List.getElem?_nil, List.set_cons_zero, List.set_cons_succ, Option.join_some, Option.join_none, Option.bind_some, Option.bind_none, Nat.zero_add, Nat.reduceAdd, Nat.reduceSub, Nat.sub_zero, if_true, Bool.false_eq_true, if_false, ite_true, ite_false, gSet0, gSet1, gSet2, gIx0, gIx1, gIx2, gIxL0, gIxL1, gIxL2, gCmp, decide_true, decide_false, Bool.not_true, Bool.not_false, Option.map_some, liftL, iVal, iArg, gMulI, n2, g])
    simp (disch := assumption) only [fn_law_echo, den_law_echo, fnD, dSeq, dSet, dRet, dRetS, dRetN, dCall, dCallB, dCallO, dCons, dNil, dVar, dSlot, dC, dOp, dIf, dIfS, dNx, dTest, dNotT, dAndT, dOrT, dAnd, dOr, dNot, dNeg, dTup, dLst, dPar, dAsg, dSetIx, dApp, dLenS, dIxS, atL, res, resA, lift, wb, R.bind, R.bind_ok, R.bind_exc, tN, tNil', tCons', tTup', tSq', gSqL, gSqT, gAddI, gSubI, gMulI, gDivI, gModI, gAbs, gInt, gLen, gMax, gMin, gGt, gLt, gGe, gLe, List.map_cons, List.map_nil, List.length_cons, List.length_nil, List.replicate_succ, List.replicate_zero, List.cons_append, List.nil_append, List.append_nil, List.getElem?_cons_zero, List.getElem?_cons_succ, List.getElem?_nil, List.set_cons_zero, List.set_cons_succ, Option.join_some, Option.join_none, Option.bind_some, Option.bind_none, Nat.zero_add, Nat.reduceAdd, Nat.reduceSub, Nat.sub_zero, if_true, Bool.false_eq_true, if_false, ite_true, ite_false, gSet0, gSet1, gSet2, gIx0, gIx1, gIx2, gIxL0, gIxL1, gIxL2, gCmp, decide_true, decide_false, Bool.not_true, Bool.not_false, Option.map_some, liftL, iVal, iArg, g0, decide_eq_false h, lit_zero, lit_one, gMulI, n1, hs, lc]
    rfl
end Dn


/-! Sw5: drawn rows. -/
namespace Dn
open PySem PySem.Spec PyProof.Rows L2 PS
abbrev E63 : Nat := lcmTo 63
theorem Pane.lw {p : Rat} (h : Pane p) : Lw E63 1 0 p := by
  obtain ⟨g, hg⟩ := bot63.dvd p.den p.den_pos (by have := h.sm.den; omega)
  refine ⟨⟨p.num * g, ?_⟩, ?_, ?_⟩
  · show p * ((lcmTo 63 : Nat) : Rat) ^ 1 = _
    rw [Rat.pow_one, hg]
    have := q_self p
    have d1 : ((p.den : Int) : Rat) = (p.den : Rat) := by exact_mod_cast rfl
    have d0 : ((p.den : Int) : Rat) ≠ 0 := by exact_mod_cast den_ne p
    push_cast
    rw [d1] at this d0
    generalize (p.den : Rat) = d at *
    generalize (p.num : Rat) = n at *
    grind
  · have := h.hi; have e : (2 : Rat) ^ 0 = 1 := Rat.pow_zero _; grind
  · have := h.lo; have e : (2 : Rat) ^ 0 = 1 := Rat.pow_zero _; grind
/-- n draws of a pane, into a comprehension -/
theorem frs_of' {P : Rat → Prop} : ∀ {ys : List D}, (∀ (i : Nat) y, ys[i]? = some y → ∃ p, y = fr p ∧ P p) → ∃ ps : List Rat, ys = ps.map fr ∧ ∀ p ∈ ps, P p
  | [], _ => ⟨[], rfl, fun p hp => by cases hp⟩
  | y :: ys, h => by
    obtain ⟨p, rfl, hp⟩ := h 0 y rfl
    obtain ⟨ps, rfl, hps⟩ := frs_of' (P := P) (ys := ys) fun i z hz => h (i + 1) z hz
    exact ⟨p :: ps, rfl, fun q hq => by
      rcases List.mem_cons.mp hq with rfl | hq
      · exact hp
      · exact hps q hq⟩
theorem wall_of {l : List D} (hl : ∀ x ∈ l, ∃ w : Int, x = .int w ∧ (w = 0 ∨ w = 1 ∨ w = -1)) {B : Nat} {d : D} (h : Box B d) (h0 : 0 < l.length) (h1 : l.length ≤ 1000) (hB : B ≤ 1000000) : ∃ (w : Int) (d' : D), fn_law_of [d, .list l] = .ok (.int w) [some d'] ∧ (w = 0 ∨ w = 1 ∨ w = -1) ∧ Box (B + 1) d' := by
  obtain ⟨x, hx, d', e, hb⟩ := sem_of h h0 (by omega) hB
  obtain ⟨w, rfl, hw⟩ := hl x hx
  exact ⟨w, d', e, hw, hb⟩
theorem sem_row {B most : Nat} {d : D} (h : Box B d) (hB : B + 5 * most ≤ 90000) (hm : most ≤ 1000) : ∃ (ps : List Rat) (w : Int) (d' : D), fn_law_row [d, .int (most : Int)] = .ok (rowD ps w) [some d'] ∧ ps.length ≤ most ∧ (∀ p ∈ ps, Pane p) ∧ (w = 0 ∨ w = 1 ∨ w = -1) ∧ Box (B + 4 * most + 2) d' := by
  obtain ⟨r1, d1, e1, a1, b1, h1⟩ := sem_take (s := (most : Int) + 1) h (by omega) (bits_ok (by omega)) (by omega)
  obtain ⟨n, rfl⟩ : ∃ n : Nat, r1 = (n : Int) := ⟨r1.toNat, by omega⟩
  have hg : gRange1 [.int (n : Int)] = some (rangeD 0 n) := gRange1_n (by have : lim = 1000000 := rfl; omega)
  obtain ⟨ys, r, e2, l2, h2, d2, u, rfl, hd2⟩ := lcD_run (vs := [2]) (tg := tN 2) (te := dCall [0] [(some 0)] [0] [] fn_law_pane_v2 (dCons (dSlot 0) dNil))
    (fun j r => ∃ d u, r = [some d, some (.int (most : Int)), u, none] ∧ Box (B + 1 + 4 * j) d) (fun _ y => ∃ q, y = fr q ∧ Pane q) (rangeD 0 n) 0 [] [some d1, some (.int (most : Int)), none, none] (fun i x ρ hx hI => by
      obtain ⟨d, u, rfl, hd⟩ := hI
      obtain ⟨rfl, hi2⟩ := rangeD_at hx
      obtain ⟨q, d', e0, hq, hd'⟩ := sem_pane_v2 hd (by omega)
      refine ⟨_, fr q, [some d', some (.int (most : Int)), some (.int (0 + (i : Nat))), none], rfl, ?_, ⟨q, rfl, hq⟩, d', _, rfl, hd'.mono (by omega)⟩
      simp only [fnD, dSeq, dSet, dRet, dRetS, dRetN, dCall, dCallB, dCallO, dCons, dNil, dVar, dSlot, dC, dOp, dIf, dIfS, dNx, dTest, dNotT, dAndT, dOrT, dAnd, dOr, dNot, dNeg, dTup, dLst, dPar, dAsg, dSetIx, dApp, dLenS, dIxS, atL, res, resA, lift, wb, R.bind, R.bind_ok, R.bind_exc, tN, tNil', tCons', tTup', tSq', gSqL, gSqT, gAddI, gSubI, gMulI, gDivI, gModI, gAbs, gInt, gLen, gMax, gMin, gGt, gLt, gGe, gLe, List.map_cons, List.map_nil, List.length_cons, List.length_nil, List.replicate_succ, List.replicate_zero, List.cons_append, List.nil_append, List.append_nil, List.getElem?_cons_zero, List.getElem?_cons_succ, List.getElem?_nil, List.set_cons_zero, List.set_cons_succ, Option.join_some, Option.join_none, Option.bind_some, Option.bind_none, Nat.zero_add, Nat.reduceAdd, Nat.reduceSub, Nat.sub_zero, if_true, Bool.false_eq_true, if_false, ite_true, ite_false, gSet0, gSet1, gSet2, gIx0, gIx1, gIx2, gIxL0, gIxL1, gIxL2, gCmp, decide_true, decide_false, Bool.not_true, Bool.not_false, Option.map_some, liftL, iVal, iArg, wipeR, e0]) (by rw [rangeD_len]; have : lim = 1000000 := rfl; simp; omega) ⟨_, _, rfl, h1⟩
  rw [rangeD_len] at l2 hd2
  obtain ⟨ps, rfl, hps⟩ := frs_of' h2
  rw [List.length_map] at l2
  obtain ⟨w, d3, e3, hw, h3⟩ := wall_of (l := [.int 0, .int 0, .int 0, .int 0, .int 1, .int (-1)]) (fun x hx => by
    simp only [List.mem_cons, List.not_mem_nil, or_false] at hx
    rcases hx with rfl | rfl | rfl | rfl | rfl | rfl <;> exact ⟨_, rfl, by decide⟩) hd2 (by decide) (by decide) (by omega)
  refine ⟨ps, w, d3, ?_, by omega, hps, hw, h3.mono (by omega)⟩
  have e : fn_law_row [d, .int (most : Int)] = fn_law_row [d, .int (most : Int)] := rfl
  simp only [fn_law_row, den_law_row, dLc, iRange1, gTuple, backR, fnD, dSeq, dSet, dRet, dRetS, dRetN, dCall, dCallB, dCallO, dCons, dNil, dVar, dSlot, dC, dOp, dIf, dIfS, dNx, dTest, dNotT, dAndT, dOrT, dAnd, dOr, dNot, dNeg, dTup, dLst, dPar, dAsg, dSetIx, dApp, dLenS, dIxS, atL, res, resA, lift, wb, R.bind, R.bind_ok, R.bind_exc, tN, tNil', tCons', tTup', tSq', gSqL, gSqT, gAddI, gSubI, gMulI, gDivI, gModI, gAbs, gInt, gLen, gMax, gMin, gGt, gLt, gGe, gLe, List.map_cons, List.map_nil, List.length_cons, List.length_nil, List.replicate_succ, List.replicate_zero, List.cons_append, List.nil_append, List.append_nil, List.getElem?_cons_zero, List.getElem?_cons_succ, List.getElem?_nil, List.set_cons_zero, List.set_cons_succ, Option.join_some, Option.join_none, Option.bind_some, Option.bind_none, Nat.zero_add, Nat.reduceAdd, Nat.reduceSub, Nat.sub_zero, if_true, Bool.false_eq_true, if_false, ite_true, ite_false, gSet0, gSet1, gSet2, gIx0, gIx1, gIx2, gIxL0, gIxL1, gIxL2, gCmp, decide_true, decide_false, Bool.not_true, Bool.not_false, Option.map_some, liftL, iVal, iArg, e1, hg, e2, e3]
  rfl
/-! ### light rows -/
theorem gEq_int (i j : Int) : gEq (.int i) (.int j) = some (.bool (decide (i = j))) := eq_ints i j
theorem light_items {x : D} {t u : Int} (hu : 2 ≤ u) (hu2 : u < 64) (h1 : -u < t) (h2 : t < u) (hx : x = fr ((t : Rat) / (u : Rat)) ∨ x = .tuple [.int 0, .int 1] ∨ x = .tuple [.int (1 - u), .int u]) : ∃ p, x = fr p ∧ Pane p := by
  rcases hx with rfl | rfl | rfl
  · exact pane_items hu hu2 h1 h2 (.inl rfl)
  · exact pane_items hu hu2 h1 h2 (.inr (.inr (.inr (.inr (.inl rfl)))))
  · exact pane_items hu hu2 h1 h2 (.inr (.inr (.inr (.inr (.inr rfl)))))
theorem light_turn {B : Nat} {d : D} {ps : List Rat} {x1 x3 x4 x5 : Option D} (h : Box B d) (hB : B ≤ 100000) (hl : ps.length ≤ 1000) :
    ∃ (p : Rat) (d' : D) (y4 y5 : Option D), den_law_light_row_b0 [some d, x1, some (.list (ps.map fr)), x3, x4, x5] = .ok .nx [some d', x1, some (.list ((ps ++ [p]).map fr)), x3, y4, y5] ∧ Pane p ∧ Box (B + 3) d' := by
  obtain ⟨r2, d2, e2, a2, b2, h2⟩ := sem_take (s := 7) h (by decide) (bits_ok (by decide)) (by omega)
  obtain ⟨r3, d3, e3, a3, b3, h3⟩ := sem_take (s := 2 * (2 + r2) - 1) h2 (by omega) (bits_ok (by omega)) (by omega)
  have k1 : bits 2 + bits (2 + r2) < 100000000 := by have := bits_ok (x := 2) (by decide); have := bits_ok (x := 2 + r2) (by omega); omega
  have f1 := sem_law_frac (t := r3 - (2 + r2) + 1) (b := 2 + r2) (by omega) (bits_ok (by omega)) (bits_ok (by omega))
  generalize hq : fr (((r3 - (2 + r2) + 1 : Int) : Rat) / ((2 + r2 : Int) : Rat)) = q at f1
  obtain ⟨x, hx, d4, e4, h4⟩ := sem_of (l := [q, q, .tuple [.int 0, .int 1], .tuple [.int (1 - (2 + r2)), .int (2 + r2)]]) h3 (by show 0 < 4; decide) (by show 4 ≤ 1000000; decide) (by omega)
  obtain ⟨p, rfl, hp⟩ := light_items (x := x) (t := r3 - (2 + r2) + 1) (u := 2 + r2) (by omega) (by omega) (by omega) (by omega) (by
    rw [hq]
    simp only [List.mem_cons, List.not_mem_nil, or_false] at hx
    rcases hx with rfl | rfl | rfl | rfl <;> simp)
  have ga := gAppLn (xs := ps.map fr) (x := fr p) (by rw [List.length_map]; have : lim = 1000000 := rfl; omega)
  refine ⟨p, d4, some (.int (2 + r2)), some q, ?_, hp, h4.mono (by omega)⟩
  simp (disch := assumption) only [den_law_light_row_b0, fnD, dSeq, dSet, dRet, dRetS, dRetN, dCall, dCallB, dCallO, dCons, dNil, dVar, dSlot, dC, dOp, dIf, dIfS, dNx, dTest, dNotT, dAndT, dOrT, dAnd, dOr, dNot, dNeg, dTup, dLst, dPar, dAsg, dSetIx, dApp, dLenS, dIxS, atL, res, resA, lift, wb, R.bind, R.bind_ok, R.bind_exc, tN, tNil', tCons', tTup', tSq', gSqL, gSqT, gAddI, gSubI, gMulI, gDivI, gModI, gAbs, gInt, gLen, gMax, gMin, gGt, gLt, gGe, gLe, List.map_cons, List.map_nil, List.length_cons, List.length_nil, List.replicate_succ, List.replicate_zero, List.cons_append, List.nil_append, List.append_nil, List.getElem?_cons_zero, List.getElem?_cons_succ, List.getElem?_nil, List.set_cons_zero, List.set_cons_succ, Option.join_some, Option.join_none, Option.bind_some, Option.bind_none, Nat.zero_add, Nat.reduceAdd, Nat.reduceSub, Nat.sub_zero, if_true, Bool.false_eq_true, if_false, ite_true, ite_false, gSet0, gSet1, gSet2, gIx0, gIx1, gIx2, gIxL0, gIxL1, gIxL2, gCmp, decide_true, decide_false, Bool.not_true, Bool.not_false, Option.map_some, liftL, iVal, iArg, e2, e3, f1, e4, ga]
  simp
theorem sem_light_row {B most : Nat} {d : D} (h : Box B d) (hB : B + 5 * most ≤ 80000) (hm : most ≤ 500) : ∃ (ps : List Rat) (w : Int) (d' : D), fn_law_light_row [d, .int (most : Int)] = .ok (rowD ps w) [some d'] ∧ ps.length ≤ most ∧ (∀ p ∈ ps, Pane p) ∧ (w = 0 ∨ w = 1 ∨ w = -1) ∧ Box (B + 4 * most + 3) d' := by
  obtain ⟨r1, d1, e1, a1, b1, h1⟩ := sem_take (s := 3) h (by decide) (bits_ok (by decide)) (by omega)
  by_cases h0 : r1 = 0
  · obtain ⟨ps, w, d2, e2, l2, hp, hw, h2⟩ := sem_row (most := min 3 most) h1 (by omega) (by omega)
    have m : (if (most : Int) < 3 then (most : Int) else 3) = ((min 3 most : Nat) : Int) := by split <;> omega
    refine ⟨ps, w, d2, ?_, by omega, hp, hw, h2.mono (by omega)⟩
    simp only [fn_law_light_row, den_law_light_row, fnD, dSeq, dSet, dRet, dRetS, dRetN, dCall, dCallB, dCallO, dCons, dNil, dVar, dSlot, dC, dOp, dIf, dIfS, dNx, dTest, dNotT, dAndT, dOrT, dAnd, dOr, dNot, dNeg, dTup, dLst, dPar, dAsg, dSetIx, dApp, dLenS, dIxS, atL, res, resA, lift, wb, R.bind, R.bind_ok, R.bind_exc, tN, tNil', tCons', tTup', tSq', gSqL, gSqT, gAddI, gSubI, gMulI, gDivI, gModI, gAbs, gInt, gLen, gMax, gMin, gGt, gLt, gGe, gLe, List.map_cons, List.map_nil, List.length_cons, List.length_nil, List.replicate_succ, List.replicate_zero, List.cons_append, List.nil_append, List.append_nil, List.getElem?_cons_zero, List.getElem?_cons_succ, List.getElem?_nil, List.set_cons_zero, List.set_cons_succ, Option.join_some, Option.join_none, Option.bind_some, Option.bind_none, Nat.zero_add, Nat.reduceAdd, Nat.reduceSub, Nat.sub_zero, if_true, Bool.false_eq_true, if_false, ite_true, ite_false, gSet0, gSet1, gSet2, gIx0, gIx1, gIx2, gIxL0, gIxL1, gIxL2, gCmp, decide_true, decide_false, Bool.not_true, Bool.not_false, Option.map_some, liftL, iVal, iArg, e1, gEq_int, decide_eq_true h0, m, e2]
  · obtain ⟨r2, d2, e2, a2, b2, h2⟩ := sem_take (s := (most : Int) + 1) h1 (by omega) (bits_ok (by omega)) (by omega)
    obtain ⟨n, rfl⟩ : ∃ n : Nat, r2 = (n : Int) := ⟨r2.toNat, by omega⟩
    have hg : gRange1 [.int (n : Int)] = some (rangeD 0 n) := gRange1_n (by have : lim = 1000000 := rfl; omega)
    obtain ⟨r, e3, d3, ps, y3, y4, y5, rfl, h3, l3, hp⟩ := forD_run (tg := tN 3) (f := den_law_light_row_b0)
      (fun j r => ∃ (d : D) (ps : List Rat) (y3 y4 y5 : Option D), r = [some d, some (.int (most : Int)), some (.list (ps.map fr)), y3, y4, y5] ∧ Box (B + 2 + 3 * j) d ∧ ps.length = j ∧ ∀ p ∈ ps, Pane p)
      (rangeD 0 n) 0 [some d2, some (.int (most : Int)), some (.list []), none, none, none] (fun i x ρ hx hI => by
        obtain ⟨d, ps, y3, y4, y5, rfl, hd, hl, hp⟩ := hI
        obtain ⟨rfl, hi⟩ := rangeD_at hx
        obtain ⟨p, d', z4, z5, e4, hpp, hd'⟩ := light_turn (x1 := some (.int (most : Int))) (x3 := some (.int (0 + (i : Nat)))) (x4 := y4) (x5 := y5) hd (by omega) (ps := ps) (by omega)
        refine ⟨_, _, rfl, e4, d', ps ++ [p], _, z4, z5, rfl, hd'.mono (by omega), by rw [List.length_append, hl]; rfl, fun q hq => ?_⟩
        rcases List.mem_append.mp hq with hq | hq
        · exact hp q hq
        · simp only [List.mem_cons, List.not_mem_nil, or_false] at hq
          subst hq
          exact hpp) ⟨d2, [], none, none, none, rfl, h2, rfl, fun p hp => by cases hp⟩
    rw [rangeD_len] at h3 l3
    obtain ⟨w, d4, e5, hw, h4⟩ := wall_of (l := [.int 0, .int 0, .int 0, .int 0, .int 1, .int (-1)]) (fun x hx => by
      simp only [List.mem_cons, List.not_mem_nil, or_false] at hx
      rcases hx with rfl | rfl | rfl | rfl | rfl | rfl <;> exact ⟨_, rfl, by decide⟩) h3 (by decide) (by decide) (by omega)
    refine ⟨ps, w, d4, ?_, by omega, hp, hw, h4.mono (by omega)⟩
    simp only [fn_law_light_row, den_law_light_row, dFor, iRange1, gTuple, fnD, dSeq, dSet, dRet, dRetS, dRetN, dCall, dCallB, dCallO, dCons, dNil, dVar, dSlot, dC, dOp, dIf, dIfS, dNx, dTest, dNotT, dAndT, dOrT, dAnd, dOr, dNot, dNeg, dTup, dLst, dPar, dAsg, dSetIx, dApp, dLenS, dIxS, atL, res, resA, lift, wb, R.bind, R.bind_ok, R.bind_exc, tN, tNil', tCons', tTup', tSq', gSqL, gSqT, gAddI, gSubI, gMulI, gDivI, gModI, gAbs, gInt, gLen, gMax, gMin, gGt, gLt, gGe, gLe, List.map_cons, List.map_nil, List.length_cons, List.length_nil, List.replicate_succ, List.replicate_zero, List.cons_append, List.nil_append, List.append_nil, List.getElem?_cons_zero, List.getElem?_cons_succ, List.getElem?_nil, List.set_cons_zero, List.set_cons_succ, Option.join_some, Option.join_none, Option.bind_some, Option.bind_none, Nat.zero_add, Nat.reduceAdd, Nat.reduceSub, Nat.sub_zero, if_true, Bool.false_eq_true, if_false, ite_true, ite_false, gSet0, gSet1, gSet2, gIx0, gIx1, gIx2, gIxL0, gIxL1, gIxL2, gCmp, decide_true, decide_false, Bool.not_true, Bool.not_false, Option.map_some, liftL, iVal, iArg, e1, gEq_int, decide_eq_false h0, e2, hg, e3, e5]
    rfl
end Dn


/-! Ps5: echoes told apart by their panes. -/
namespace Dn
open PS
def hdR (w : Rat) : List Rat → Rat
  | [] => w
  | p :: _ => p
/-- a pane, a wall or nothing -/
structure RowOk (w : Rat) (ps : List Rat) : Prop where
  pane : ∀ p ∈ ps, -1 < p ∧ p < 1
  wall : w = 0 ∨ w = 1 ∨ w = -1
theorem sq_lt {p : Rat} (h1 : -1 < p) (h2 : p < 1) : p * p < 1 := by
  have : 0 < (1 - p) * (1 + p) := Rat.mul_pos (by grind) (by grind)
  grind
theorem RowOk.hd {w : Rat} {ps : List Rat} (h : RowOk w ps) : hdR w ps * hdR w ps ≠ 1 ∨ (ps = [] ∧ (w = 1 ∨ w = -1)) := by
  cases ps with
  | nil =>
    rcases h.wall with e | e | e
    · left; show w * w ≠ 1; rw [e]; decide +kernel
    · exact .inr ⟨rfl, .inl e⟩
    · exact .inr ⟨rfl, .inr e⟩
  | cons p ps =>
    have := h.pane p List.mem_cons_self
    have := sq_lt this.1 this.2
    left
    show p * p ≠ 1
    grind
end Dn


/-! Ps6: what is left of an echo behind its first pane; rows without their last noughts. -/
namespace Dn
open PS
variable {E : Nat}
/-! ### rows without their last noughts -/
end Dn


/-! Sw7: panes found back from a row's echo. -/
namespace Dn
open PySem PySem.Spec PyProof.Rows L2 PS
theorem rat_lt (p q : Rat) : decide (p.num * q.den < q.num * p.den) = decide (p < q) := by
  congr 1
  exact propext (Rat.lt_iff p q).symm
/-! ### the panes taken off a row's echo -/
end Dn


/-! Sw9: the outer loop; products of series; what is alike. -/
namespace Dn
open PySem PySem.Spec PyProof.Rows L2 PS
theorem pane0 : Pane 0 := ⟨by decide +kernel, by decide +kernel, Sm.zero.le (by decide)⟩
/-! ### products -/
def prt (A B : PS) (m j : Nat) : Rat := sm (min m (j + 1)) fun t => A.c t * B.c (j - t)
structure MS (many : Nat) (A B : PS) : Prop where
  fA : ∀ i, i < many → Sm 2600 (A.c i)
  fB : ∀ i, i < many → Sm 2600 (B.c i)
  fP : ∀ m j, j < many → Sm 2600 (prt A B m j)
end Dn


/-! Sw10: sizes drawn; what is heard of cries. -/
namespace Dn
open PySem PySem.Spec PyProof.Rows L2 PS
theorem bot63' : Bot E63 63 90 := bot63
/-! ### comprehensions over lists of rationals -/
end Dn


namespace Dn
/-! the denotations -/
def den_law_is_row_b0 : Den Fl := (dSeq (dIfS (dOrT (dNotT (dTest (dIsi "tuple" none (dVar 1)))) (dTest (dOp none none gNe (dCallB [none] gLen (dCons (dVar 1) dNil)) (dC (.int 2))))) (dRet (dC (.bool false))) dNx) (dSeq (dIfS (dOrT (dNotT (dTest (dCallB [none] gAll (dCons (dLc [2] (iSq (dVar 1)) (tN 2) dYes (dAnd (dIsi "int" none (dVar 2)) (dNot (dIsi "bool" none (dVar 2))))) dNil)))) (dTest (dOp none none gLt (dOp none none gIx (dVar 1) (dC (.int 1))) (dC (.int 1))))) (dRet (dC (.bool false))) dNx) (dIfS (dOrT (dTest (dOp none none gNe (dCall [] [none, none] [] [] fn_law_frac (dCons (dOp none none gIx (dVar 1) (dC (.int 0))) (dCons (dOp none none gIx (dVar 1) (dC (.int 1))) dNil))) (dVar 1))) (dTest (dOp none none gGe (dCallB [none] gAbs (dCons (dOp none none gIx (dVar 1) (dC (.int 0))) dNil)) (dOp none none gIx (dVar 1) (dC (.int 1)))))) (dRet (dC (.bool false))) dNx)))
def den_law_is_row : Den Fl := (dSeq (dIfS (dOrT (dNotT (dTest (dIsi "tuple" none (dVar 0)))) (dOrT (dTest (dOp none none gNe (dCallB [none] gLen (dCons (dVar 0) dNil)) (dC (.int 2)))) (dNotT (dTest (dIsi "tuple" none (dOp none none gIx (dVar 0) (dC (.int 0)))))))) (dRet (dC (.bool false))) dNx) (dSeq (dIfS (dOrT (dNotT (dTest (dIsi "int" none (dOp none none gIx (dVar 0) (dC (.int 1)))))) (dOrT (dTest (dIsi "bool" none (dOp none none gIx (dVar 0) (dC (.int 1))))) (dTest (dOp none none gNotIn (dOp none none gIx (dVar 0) (dC (.int 1))) (dTup (dCons (dC (.int 0)) (dCons (dC (.int 1)) (dCons (dNeg (dC (.int 1))) dNil)))))))) (dRet (dC (.bool false))) dNx) (dSeq (dFor (iSq (dOp none none gIx (dVar 0) (dC (.int 0)))) (tN 1) den_law_is_row_b0) (dRet (dC (.bool true))))))
def fn_law_is_row : Fn := fnD 3 [] den_law_is_row
def den_law_odd : Den Fl := (dSeq (dAsg (tSq' 2 (tCons' (tN 3) (tCons' (tN 4) tNil'))) (dVar 1)) (dSeq (dSet 5 (dCall [0] [(some 0), none] [0] [] fn_law_of (dCons (dSlot 0) (dCons (dLst (dCons (dTup (dCons (dC (.int 1)) (dCons (dC (.int 1)) dNil))) (dCons (dTup (dCons (dNeg (dC (.int 1))) (dCons (dC (.int 1)) dNil))) (dCons (dTup (dCons (dC (.int 2)) (dCons (dC (.int 4)) dNil))) (dCons (dTup (dCons (dC (.int 1)) (dCons (dC (.int 0)) dNil))) (dCons (dTup (dCons (dC (.int 1)) (dCons (dNeg (dC (.int 2))) dNil))) (dCons (dLst (dCons (dC (.int 1)) (dCons (dC (.int 2)) dNil))) (dCons (dTup (dCons (dC (.bool true)) (dCons (dC (.int 2)) dNil))) (dCons (dTup (dCons (dC (.int 0)) (dCons (dC (.int 2)) dNil))) (dCons (dC (.int 0)) (dCons (dC .none) (dCons (dTup (dCons (dC (.int 1)) (dCons (dC (.int 2)) (dCons (dC (.int 3)) dNil)))) dNil)))))))))))) dNil)))) (dSeq (dSet 6 (dLst (dCons (dTup (dCons (dOp none none gAdd (dOp none none gAdd (dSl none (dVar 3) dNoPart (dPart (dVar 2))) (dTup (dCons (dVar 5) dNil))) (dSl none (dVar 3) (dPart (dVar 2)) dNoPart)) (dCons (dVar 4) dNil))) (dCons (dTup (dCons (dCallB [none] (fun ds => (gSeq ds).map .list) (dCons (dVar 3) dNil)) (dCons (dVar 4) dNil))) (dCons (dLst (dCons (dVar 3) (dCons (dVar 4) dNil))) (dCons (dTup (dCons (dVar 3) dNil)) (dCons (dVar 3) (dCons (dTup (dCons (dVar 3) (dCons (dC (.int 2)) dNil))) dNil)))))))) (dSeq (dSet 6 (dOp none none gAdd (dVar 6) (dLst (dCons (dTup (dCons (dVar 3) (dCons (dC .none) dNil))) (dCons (dTup (dCons (dVar 3) (dCons (dOp none none gEq (dVar 4) (dC (.int 1))) dNil))) (dCons (dTup (dCons (dVar 3) (dCons (dTup (dCons (dVar 4) (dCons (dC (.int 1)) dNil))) dNil))) (dCons (dTup (dCons (dVar 3) (dCons (dVar 4) (dCons (dC (.int 0)) dNil)))) (dCons (dC .none) (dCons (dC (.str "")) (dCons (dTup dNil) (dCons (dLst dNil) dNil))))))))))) (dRet (dCall [0] [(some 0), none] [0] [] fn_law_of (dCons (dSlot 0) (dCons (dOp none none gAdd (dVar 6) (dLst (dCons (dTup (dCons (dVar 4) (dCons (dVar 3) dNil))) dNil))) dNil))))))))
def fn_law_odd : Fn := fnD 7 [0] den_law_odd
def den_law_near : Den Fl := (dSeq (dAsg (tSq' 2 (tCons' (tN 3) (tCons' (tN 4) tNil'))) (dVar 1)) (dSeq (dSet 5 (dLst (dCons (dVar 1) (dCons (dTup (dCons (dOp none none gAdd (dVar 3) (dTup (dCons (dCall [0] [(some 0)] [0] [] fn_law_pane_v2 (dCons (dSlot 0) dNil)) dNil))) (dCons (dVar 4) dNil))) (dCons (dTup (dCons (dOp none none gAdd (dVar 3) (dOp none none gMulT (dTup (dCons (dTup (dCons (dC (.int 0)) (dCons (dC (.int 1)) dNil))) dNil)) (dC (.int 2)))) (dCons (dVar 4) dNil))) (dCons (dTup (dCons (dVar 3) (dCons (dC (.int 0)) dNil))) (dCons (dTup (dCons (dVar 3) (dCons (dC (.int 1)) dNil))) (dCons (dTup (dCons (dVar 3) (dCons (dNeg (dC (.int 1))) dNil))) dNil)))))))) (dSeq (dSet 5 (dOp none none gAdd (dVar 5) (dLst (dCons (dTup (dCons (dOp none none gAdd (dOp none none gAdd (dSl none (dVar 3) dNoPart (dPart (dVar 2))) (dTup (dCons (dCall [0] [(some 0)] [0] [] fn_law_pane_v2 (dCons (dSlot 0) dNil)) dNil))) (dSl none (dVar 3) (dPart (dOp none none gAdd (dVar 2) (dC (.int 1)))) dNoPart)) (dCons (dVar 4) dNil))) (dCons (dTup (dCons (dOp none none gAdd (dSl none (dVar 3) dNoPart (dPart (dVar 2))) (dSl none (dVar 3) (dPart (dOp none none gAdd (dVar 2) (dC (.int 1)))) dNoPart)) (dCons (dVar 4) dNil))) dNil))))) (dRet (dCall [0] [(some 0), none] [0] [] fn_law_of (dCons (dSlot 0) (dCons (dVar 5) dNil)))))))
def fn_law_near : Fn := fnD 6 [0] den_law_near
def den_law_right_v2_b0 : Den Fl := (dSeq (dSet 6 (dCall [0] [(some 0), none] [0] [] fn_law_take (dCons (dSlot 0) (dCons (dOp none none gAdd (dCallB [none] gLen (dCons (dOp none none gIx (dVar 1) (dC (.int 0))) dNil)) (dC (.int 1))) dNil)))) (dSeq (dSet 7 (dOp none none gEq (dCall [0] [(some 0), none] [0] [] fn_law_take (dCons (dSlot 0) (dCons (dC (.int 2)) dNil))) (dC (.int 0)))) (dSeq (dSet 8 (dIf (dTest (dVar 7)) (dCall [0] [(some 0), none, none] [0] [] fn_law_near (dCons (dSlot 0) (dCons (dVar 1) (dCons (dVar 6) dNil)))) (dCall [0] [(some 0), none, none] [0] [] fn_law_odd (dCons (dSlot 0) (dCons (dVar 1) (dCons (dVar 6) dNil)))))) (dSeq (dSet 9 (dCallB [none] gRepr (dCons (dVar 8) dNil))) (dSeq (dSet 10 (dAnd (dCall [] [none] [] [] fn_law_is_row (dCons (dVar 8) dNil)) (dOp none none gEq (dCall [] [none, none] [] [] fn_law_echo (dCons (dVar 8) (dCons (dCallB [none] gLen (dCons (dVar 3) dNil)) dNil))) (dVar 3)))) (dSeq (dIfS (dNotT (dTest (dCall [] [none, none] [] [] (fn_law_same 10) (dCons (dCall [] [none, none] [] [] fn_shows_row (dCons (dIf (dTest (dOp none none gEq (dOp none none gMod (dVar 6) (dC (.int 2))) (dC (.int 0)))) (dCallB [none] gTuple (dCons (dVar 3) dNil)) (dVar 3)) (dCons (dVar 8) dNil))) (dCons (dVar 10) dNil))))) (dRet (dC (.bool false))) dNx) (dIfS (dTest (dOp none none gNeS (dCallB [none] gRepr (dCons (dVar 8) dNil)) (dVar 9))) (dRet (dC (.bool false))) dNx)))))))
def den_law_right_v2 : Den Fl := (dSeq (dSet 1 (dCall [0] [(some 0), none] [0] [] fn_law_light_row (dCons (dSlot 0) (dCons (dC (.int 5)) dNil)))) (dSeq (dSet 2 (dOp none none gSub (dOp none none gAdd (dCallB [none] gLen (dCons (dOp none none gIx (dVar 1) (dC (.int 0))) dNil)) (dCall [0] [(some 0), none] [0] [] fn_law_take (dCons (dSlot 0) (dCons (dC (.int 4)) dNil)))) (dC (.int 1)))) (dSeq (dSet 3 (dCall [] [none, none] [] [] fn_law_echo (dCons (dVar 1) (dCons (dCallB [none, none] gMax (dCons (dC (.int 0)) (dCons (dVar 2) dNil))) dNil)))) (dSeq (dIfS (dAndT (dTest (dOp none none gEq (dCall [0] [(some 0), none] [0] [] fn_law_take (dCons (dSlot 0) (dCons (dC (.int 3)) dNil))) (dC (.int 0)))) (dTest (dOp (some 3) none gNe (dSlot 3) (dLst dNil)))) (dSeq (dSet 4 (dCall [0] [(some 0), none] [0] [] fn_law_take (dCons (dSlot 0) (dCons (dCallB [(some 3)] gLen (dCons (dSlot 3) dNil)) dNil)))) (dSetIx 3 (dVar 4) (dCall [] [none, none] [] [] fn_law_plus (dCons (dOp (some 3) none gIx (dSlot 3) (dVar 4)) (dCons (dTup (dCons (dC (.int 1)) (dCons (dC (.int 60)) dNil))) dNil))))) dNx) (dSeq (dFor (iRange1 (dCons (dC (.int 8)) dNil)) (tN 5) den_law_right_v2_b0) (dRet (dC (.bool true))))))))
def fn_law_right_v2 : Fn := fnD 11 [0] den_law_right_v2
def den_law_v3_b0 : Den Fl := (dSeq (dSet 2 (dCall [] [(some 0), none] [] [] fn_law_box (dCons (dSlot 0) (dCons (dVar 1) dNil)))) (dSeq (dIfS (dNotT (dTest (dCallB [none] gAll (dCons (dLc [3] (iRange1 (dCons (dC (.int 2)) dNil)) (tN 3) dYes (dCall [0] [(some 2)] [2] [] fn_law_right_v2 (dCons (dSlot 2) dNil))) dNil)))) (dRet (dC (.bool false))) dNx) dNx))
def den_law_v3 : Den Fl := (dSeq (dFor (iRange1 (dCons (dOp none none gAdd (dC (.int 1)) (dCallB [none, none] gMin (dCons (dC (.int 2)) (dCons (dLenS 0) dNil)))) dNil)) (tN 1) den_law_v3_b0) (dRet (dC (.bool true))))
def fn_law_v3 : Fn := fnD 4 [] den_law_v3
end Dn

namespace Dn
open PySem PySem.Spec PyProof.Rows L2 PS
/-! ### things of any kind, of small numbers -/
mutual
def thT (b : Nat) : D → Bool
  | .none => true
  | .bool _ => true
  | .int i => decide (i.natAbs < 2 ^ b)
  | .str x => PyData.strOk x
  | .list ds => thTL b ds
  | .tuple ds => thTL b ds
  | .dict _ => false
def thTL (b : Nat) : List D → Bool
  | [] => true
  | d :: ds => thT b d && thTL b ds
end
theorem thTL_all {b : Nat} : ∀ {ds : List D}, thTL b ds = true ↔ ∀ d ∈ ds, thT b d = true
  | [] => ⟨fun _ _ h => (nomatch h), fun _ => by simp only [thTL]⟩
  | d :: ds => by
    simp only [thTL, Bool.and_eq_true, List.mem_cons]
    constructor
    · rintro ⟨h1, h2⟩ x (rfl | hx)
      · exact h1
      · exact thTL_all.mp h2 x hx
    · exact fun h => ⟨h d (.inl rfl), thTL_all.mpr fun x hx => h x (.inr hx)⟩
theorem thT_tup {b : Nat} {ds : List D} : thT b (.tuple ds) = true ↔ ∀ d ∈ ds, thT b d = true := by simp only [thT]; exact thTL_all
theorem thT_lst {b : Nat} {ds : List D} : thT b (.list ds) = true ↔ ∀ d ∈ ds, thT b d = true := by simp only [thT]; exact thTL_all
theorem thT_int {b : Nat} {i : Int} : thT b (.int i) = true ↔ i.natAbs < 2 ^ b := by simp [thT]
theorem int_len {i : Int} (h : i.natAbs < 2 ^ 13) : (PyData.shown (.int i)).length ≤ 8 := by
  have e : PyData.shown (.int i) = Str.ofString (toString i) := by simp only [PyData.shown]
  rw [e]
  have h10 : (2 : Nat) ^ 13 < 10 ^ 4 := by decide
  rcases Int.lt_or_le i 0 with z | z
  · rw [PyProof.Rows.len_text_neg z]
    have := PyProof.Rows.toString_length_le (v := 0 - i) (by omega) (k := 4) (by decide) (by omega)
    omega
  · have := PyProof.Rows.toString_length_le (v := i) z (k := 4) (by decide) (by omega)
    omega
mutual
theorem thT_lay : ∀ {d : D}, thT 13 d = true → d.canLay0 = true ∧ PyData.showable d = true ∧ PyData.intsShort 8 d = true
  | .none, _ => by simp only [PyData.canLay0, PyData.showable, PyData.intsShort, and_self]
  | .bool _, _ => by simp only [PyData.canLay0, PyData.showable, PyData.intsShort, and_self]
  | .int i, h => by
    have h := thT_int.mp h
    simp only [PyData.canLay0, PyData.showable, PyData.intsShort, decide_eq_true_eq, true_and]
    refine ⟨?_, int_len h⟩
    rcases Nat.eq_zero_or_pos i.natAbs with z | z
    · rw [z]; decide
    · exact Nat.lt_of_lt_of_le (Nat.log2_lt (by omega) |>.mpr h) (by decide)
  | .str x, h => by
    simp only [thT] at h
    simp only [PyData.canLay0, PyData.showable, PyData.intsShort, h, and_self]
  | .list ds, h => by
    simp only [thT] at h
    have := thTL_lay h
    simpa only [PyData.canLay0, PyData.showable, PyData.intsShort] using this
  | .tuple ds, h => by
    simp only [thT] at h
    have := thTL_lay h
    simpa only [PyData.canLay0, PyData.showable, PyData.intsShort] using this
  | .dict _, h => by simp only [thT] at h; exact nomatch h
theorem thTL_lay : ∀ {ds : List D}, thTL 13 ds = true → PyData.canLayAll0 ds = true ∧ PyData.showableAll ds = true ∧ PyData.intsShortAll 8 ds = true
  | [], _ => ⟨rfl, rfl, rfl⟩
  | d :: ds, h => by
    simp only [thTL, Bool.and_eq_true] at h
    have h1 := thT_lay h.1
    have h2 := thTL_lay h.2
    simp only [PyData.canLayAll0, PyData.showableAll, PyData.intsShortAll, h1.1, h1.2.1, h1.2.2, h2.1, h2.2.1, h2.2.2, Bool.and_self, and_self]
end
mutual
theorem thT_mono {b c : Nat} (hbc : b ≤ c) : ∀ {d : D}, thT b d = true → thT c d = true
  | .none, _ => by simp only [thT]
  | .bool _, _ => by simp only [thT]
  | .int i, h => thT_int.mpr (Nat.lt_of_lt_of_le (thT_int.mp h) (Nat.pow_le_pow_right (by decide) hbc))
  | .str x, h => by simpa only [thT] using h
  | .list ds, h => by simp only [thT] at h ⊢; exact thTL_mono hbc h
  | .tuple ds, h => by simp only [thT] at h ⊢; exact thTL_mono hbc h
  | .dict _, h => by simp only [thT] at h; exact nomatch h
theorem thTL_mono {b c : Nat} (hbc : b ≤ c) : ∀ {ds : List D}, thTL b ds = true → thTL c ds = true
  | [], _ => by simp only [thTL]
  | d :: ds, h => by
    simp only [thTL, Bool.and_eq_true] at h ⊢
    exact ⟨thT_mono hbc h.1, thTL_mono hbc h.2⟩
end
structure Th (b k n : Nat) (d : D) : Prop where
  ok : thT b d = true
  dp : PyData.depth d ≤ k
  wt : PyData.weight d ≤ n
section
variable {b k n : Nat} {d : D}
theorem Th.le (h : Th b k n d) {b' k' n' : Nat} (hb : b ≤ b') (hk : k ≤ k') (hn : n ≤ n') : Th b' k' n' d := ⟨thT_mono hb h.ok, Nat.le_trans h.dp hk, Nat.le_trans h.wt hn⟩
theorem Th.repr (h : Th b k n d) (hb : b ≤ 13) (hk : k ≤ 60) (hn : n ≤ 90000) : gRepr [d] = some (.str (PyData.shown d)) := by
  obtain ⟨l1, l2, l3⟩ := thT_lay (thT_mono hb h.ok)
  have ll := PyData.leavesShort_of_canLay0 8 d l1 l3
  have sl := PyData.shown_le 8 (by decide) d ll
  have hw := h.wt
  have hd := h.dp
  show (if PyData.showable d = true ∧ PyData.hasDict d = false ∧ (PyData.shown d).length ≤ lim ∧ PyData.depth d ≤ 60 then some (PyData.str (PyData.shown d)) else none) = _
  rw [if_pos ⟨l2, PyData.hasDict_of_canLay d l1, by show _ ≤ 1000000; omega, by omega⟩]
theorem Th.shp (h : Th b k n d) (hb : b ≤ 13) (hk : k ≤ 60) : SeqAt.shaped d = true := by
  obtain ⟨l1, -, -⟩ := thT_lay (thT_mono hb h.ok)
  unfold SeqAt.shaped
  rw [l1, decide_eq_true (by have := h.dp; omega)]
  rfl
theorem dpA {k : Nat} : ∀ {ds : List D}, PyData.depthAll ds ≤ k ↔ ∀ d ∈ ds, PyData.depth d ≤ k
  | [] => ⟨fun _ _ h => (nomatch h), fun _ => by simp only [PyData.depthAll]; omega⟩
  | d :: ds => by
    simp only [PyData.depthAll, List.mem_cons]
    constructor
    · rintro h x (rfl | hx)
      · omega
      · exact dpA.mp (by omega) x hx
    · intro h
      have h1 := h d (.inl rfl)
      have h2 : PyData.depthAll ds ≤ k := dpA.mpr fun x hx => h x (.inr hx)
      omega
theorem wtA {n : Nat} : ∀ {ds : List D}, (∀ d ∈ ds, PyData.weight d ≤ n) → PyData.weightAll ds ≤ ds.length * (n + 1)
  | [], _ => by simp only [PyData.weightAll, List.length_nil]; omega
  | d :: ds, h => by
    have h1 := h d List.mem_cons_self
    have h2 := wtA fun x hx => h x (List.mem_cons_of_mem _ hx)
    simp only [PyData.weightAll, List.length_cons]
    rw [Nat.add_mul, Nat.one_mul]
    omega
theorem wtA_app : ∀ (ds es : List D), PyData.weightAll (ds ++ es) = PyData.weightAll ds + PyData.weightAll es
  | [], es => by simp only [List.nil_append, PyData.weightAll]; omega
  | d :: ds, es => by simp only [List.cons_append, PyData.weightAll, wtA_app ds es]; omega
theorem wtA_len : ∀ (ds : List D), ds.length ≤ PyData.weightAll ds
  | [] => by simp
  | d :: ds => by have := wtA_len ds; simp only [PyData.weightAll, List.length_cons]; omega
theorem wtA_mem : ∀ {ds : List D} {d : D}, d ∈ ds → PyData.weight d ≤ PyData.weightAll ds
  | x :: ds, d, h => by
    simp only [PyData.weightAll]
    rcases List.mem_cons.mp h with rfl | h
    · omega
    · have := wtA_mem h; omega
theorem Th.tup {ds : List D} (h : ∀ d ∈ ds, Th b k n d) {m : Nat} (hm : ds.length * (n + 1) ≤ m) : Th b (k + 1) m (.tuple ds) :=
  ⟨thT_tup.mpr fun d hd => (h d hd).ok, by simp only [PyData.depth]; have := dpA.mpr fun d hd => (h d hd).dp; omega, by simp only [PyData.weight]; have := wtA fun d hd => (h d hd).wt; omega⟩
theorem Th.lst {ds : List D} (h : ∀ d ∈ ds, Th b k n d) {m : Nat} (hm : ds.length * (n + 1) ≤ m) : Th b (k + 1) m (.list ds) :=
  ⟨thT_lst.mpr fun d hd => (h d hd).ok, by simp only [PyData.depth]; have := dpA.mpr fun d hd => (h d hd).dp; omega, by simp only [PyData.weight]; have := wtA fun d hd => (h d hd).wt; omega⟩
theorem Th.mem {ds : List D} (h : Th b k n (.tuple ds)) : (∀ d ∈ ds, Th b k n d) ∧ ds.length ≤ n ∧ PyData.weightAll ds ≤ n := by
  have hd := h.dp
  have hw := h.wt
  simp only [PyData.depth, PyData.weight] at hd hw
  exact ⟨fun d hm => ⟨thT_tup.mp h.ok d hm, by have := dpA.mp (show PyData.depthAll ds ≤ k by omega) d hm; exact this, Nat.le_trans (wtA_mem hm) hw⟩, Nat.le_trans (wtA_len ds) hw, hw⟩
theorem th_int {i : Int} {b : Nat} (h : i.natAbs < 2 ^ b) (hb : b ≤ 13) : Th b 0 13 (.int i) := ⟨thT_int.mpr h, by simp only [PyData.depth]; omega, by
  simp only [PyData.weight]
  split
  · omega
  · rename_i h0
    have h0 : i.natAbs ≠ 0 := fun z => h0 (by rw [show i = 0 by omega]; rfl)
    have := (Nat.log2_lt h0).mpr h
    omega⟩
end
def isNum : D → Bool
  | .int _ => true
  | _ => false
theorem sem_isnum (d : D) : fn_is_number [d] = .ok (.bool (isNum d)) [] := by
  cases d <;> simp only [fn_is_number, den_is_number, fnD, dSeq, dSet, dRet, dRetS, dRetN, dCall, dCallB, dCallO, dCons, dNil, dVar, dSlot, dC, dOp, dIf, dIfS, dNx, dTest, dNotT, dAndT, dOrT, dAnd, dOr, dNot, dNeg, dTup, dLst, dPar, dAsg, dSetIx, dApp, dLenS, dIxS, atL, res, resA, lift, wb, R.bind, R.bind_ok, R.bind_exc, tN, tNil', tCons', tTup', tSq', gSqL, gSqT, gAddI, gSubI, gMulI, gDivI, gModI, gAbs, gInt, gLen, gMax, gMin, gGt, gLt, gGe, gLe, List.map_cons, List.map_nil, List.length_cons, List.length_nil, List.replicate_succ, List.replicate_zero, List.cons_append, List.nil_append, List.append_nil, List.getElem?_cons_zero, List.getElem?_cons_succ, List.getElem?_nil, List.set_cons_zero, List.set_cons_succ, Option.join_some, Option.join_none, Option.bind_some, Option.bind_none, Nat.zero_add, Nat.reduceAdd, Nat.reduceSub, Nat.sub_zero, if_true, Bool.false_eq_true, if_false, ite_true, ite_false, gSet0, gSet1, gSet2, gIx0, gIx1, gIx2, gIxL0, gIxL1, gIxL2, gCmp, decide_true, decide_false, Bool.not_true, Bool.not_false, Option.map_some, liftL, iVal, iArg, dIsi, dIsi2, tyN, isi, String.reduceBEq, Bool.false_and, Bool.and_false, Bool.or_false, Bool.false_or, Bool.true_or, Bool.or_true, beq_self_eq_true, isNum] <;> rfl
theorem all_bls (ds : List D) (p : D → Bool) : gAll [.list (ds.map fun d => .bool (p d))] = some (.bool (ds.all p)) := by
  have h : blsOf (ds.map fun d => PyData.bool (p d)) = some (ds.map p) := by
    induction ds with
    | nil => rfl
    | cons d ds ih =>
      show (blsOf (ds.map fun d => PyData.bool (p d))).map (fun l => p d :: l) = _
      rw [ih]
      rfl
  show (blsOf (ds.map fun d => PyData.bool (p d))).map _ = _
  rw [h]
  show some (PyData.bool ((ds.map p).all id)) = _
  rw [List.all_map]
  rfl
/-- a pair of numbers -/
def isPr : D → Bool
  | .tuple [x, y] => isNum x && isNum y
  | _ => false
theorem lc_num {i j : Nat} {ρ : Rho} {ds : List D} (hl : ds.length ≤ lim) (hi : iSq (dVar i) ρ = .ok ds ρ) (h : ∀ d ∈ ds, tN j d (wipeR ρ [j]) = some ((wipeR ρ [j]).set j (some d))) (h2 : ∀ d ∈ ds, wipeR ((wipeR ρ [j]).set j (some d)) [j] = wipeR ρ [j]) (h3 : ∀ d ∈ ds, dVar j ((wipeR ρ [j]).set j (some d)) = .ok d ((wipeR ρ [j]).set j (some d))) :
    dLc [j] (iSq (dVar i)) (tN j) dYes (dCall [] [none] [] [] fn_is_number (dCons (dVar j) dNil)) ρ = .ok (.list (ds.map fun d => .bool (isNum d))) ρ := lc_map (fun d => .bool (isNum d)) hi hl fun d hd => by
  refine ⟨_, h d hd, h2 d hd, ?_⟩
  have e := sem_isnum d
  have h3 := h3 d hd
  generalize (wipeR ρ [j]).set j (some d) = r at *
  show (((dVar j r).bind fun x r1 => R.ok [x] r1).bind _) = _
  rw [h3]
  show (match fn_is_number [d] with | .ok d os => R.ok d (wb [] os r) | .exc c es os => .exc c es (wb [] os r) | .stuck => .stuck) = _
  rw [e]
  rfl
theorem guard3 {i : Nat} {ρ : Rho} {d : D} {LC : Den D} (hv : dVar i ρ = .ok d ρ) (hc : ∀ x y, d = .tuple [x, y] → LC ρ = .ok (.list [.bool (isNum x), .bool (isNum y)]) ρ) :
    dOrT (dNotT (dTest (dIsi "tuple" none (dVar i)))) (dOrT (dTest (dOp none none gNe (dCallB [none] gLen (dCons (dVar i) dNil)) (dC (.int 2)))) (dNotT (dTest (dCallB [none] gAll (dCons LC dNil))))) ρ = .ok (!isPr d) ρ := by
  generalize dVar i = V at *
  match d, hc with
  | .none, _ => simp only [fnD, dSeq, dSet, dRet, dRetS, dRetN, dCall, dCallB, dCallO, dCons, dNil, dVar, dSlot, dC, dOp, dIf, dIfS, dNx, dTest, dNotT, dAndT, dOrT, dAnd, dOr, dNot, dNeg, dTup, dLst, dPar, dAsg, dSetIx, dApp, dLenS, dIxS, atL, res, resA, lift, wb, R.bind, R.bind_ok, R.bind_exc, tN, tNil', tCons', tTup', tSq', gSqL, gSqT, gAddI, gSubI, gMulI, gDivI, gModI, gAbs, gInt, gLen, gMax, gMin, gGt, gLt, gGe, gLe, List.map_cons, List.map_nil, List.length_cons, List.length_nil, List.replicate_succ, List.replicate_zero, List.cons_append, List.nil_append, List.append_nil, List.getElem?_cons_zero, List.getElem?_cons_succ, List.getElem?_nil, List.set_cons_zero, List.set_cons_succ, Option.join_some, Option.join_none, Option.bind_some, Option.bind_none, Nat.zero_add, Nat.reduceAdd, Nat.reduceSub, Nat.sub_zero, if_true, Bool.false_eq_true, if_false, ite_true, ite_false, gSet0, gSet1, gSet2, gIx0, gIx1, gIx2, gIxL0, gIxL1, gIxL2, gCmp, decide_true, decide_false, Bool.not_true, Bool.not_false, Option.map_some, liftL, iVal, iArg, dIsi, hv, tyN, isi, String.reduceBEq, Bool.false_and, Bool.or_false, isPr]
  | .bool _, _ => simp only [fnD, dSeq, dSet, dRet, dRetS, dRetN, dCall, dCallB, dCallO, dCons, dNil, dVar, dSlot, dC, dOp, dIf, dIfS, dNx, dTest, dNotT, dAndT, dOrT, dAnd, dOr, dNot, dNeg, dTup, dLst, dPar, dAsg, dSetIx, dApp, dLenS, dIxS, atL, res, resA, lift, wb, R.bind, R.bind_ok, R.bind_exc, tN, tNil', tCons', tTup', tSq', gSqL, gSqT, gAddI, gSubI, gMulI, gDivI, gModI, gAbs, gInt, gLen, gMax, gMin, gGt, gLt, gGe, gLe, List.map_cons, List.map_nil, List.length_cons, List.length_nil, List.replicate_succ, List.replicate_zero, List.cons_append, List.nil_append, List.append_nil, List.getElem?_cons_zero, List.getElem?_cons_succ, List.getElem?_nil, List.set_cons_zero, List.set_cons_succ, Option.join_some, Option.join_none, Option.bind_some, Option.bind_none, Nat.zero_add, Nat.reduceAdd, Nat.reduceSub, Nat.sub_zero, if_true, Bool.false_eq_true, if_false, ite_true, ite_false, gSet0, gSet1, gSet2, gIx0, gIx1, gIx2, gIxL0, gIxL1, gIxL2, gCmp, decide_true, decide_false, Bool.not_true, Bool.not_false, Option.map_some, liftL, iVal, iArg, dIsi, hv, tyN, isi, String.reduceBEq, Bool.false_and, Bool.or_false, isPr]; rfl
  | .int _, _ => simp only [fnD, dSeq, dSet, dRet, dRetS, dRetN, dCall, dCallB, dCallO, dCons, dNil, dVar, dSlot, dC, dOp, dIf, dIfS, dNx, dTest, dNotT, dAndT, dOrT, dAnd, dOr, dNot, dNeg, dTup, dLst, dPar, dAsg, dSetIx, dApp, dLenS, dIxS, atL, res, resA, lift, wb, R.bind, R.bind_ok, R.bind_exc, tN, tNil', tCons', tTup', tSq', gSqL, gSqT, gAddI, gSubI, gMulI, gDivI, gModI, gAbs, gInt, gLen, gMax, gMin, gGt, gLt, gGe, gLe, List.map_cons, List.map_nil, List.length_cons, List.length_nil, List.replicate_succ, List.replicate_zero, List.cons_append, List.nil_append, List.append_nil, List.getElem?_cons_zero, List.getElem?_cons_succ, List.getElem?_nil, List.set_cons_zero, List.set_cons_succ, Option.join_some, Option.join_none, Option.bind_some, Option.bind_none, Nat.zero_add, Nat.reduceAdd, Nat.reduceSub, Nat.sub_zero, if_true, Bool.false_eq_true, if_false, ite_true, ite_false, gSet0, gSet1, gSet2, gIx0, gIx1, gIx2, gIxL0, gIxL1, gIxL2, gCmp, decide_true, decide_false, Bool.not_true, Bool.not_false, Option.map_some, liftL, iVal, iArg, dIsi, hv, tyN, isi, String.reduceBEq, Bool.false_and, Bool.or_false, isPr]
  | .str _, _ => simp only [fnD, dSeq, dSet, dRet, dRetS, dRetN, dCall, dCallB, dCallO, dCons, dNil, dVar, dSlot, dC, dOp, dIf, dIfS, dNx, dTest, dNotT, dAndT, dOrT, dAnd, dOr, dNot, dNeg, dTup, dLst, dPar, dAsg, dSetIx, dApp, dLenS, dIxS, atL, res, resA, lift, wb, R.bind, R.bind_ok, R.bind_exc, tN, tNil', tCons', tTup', tSq', gSqL, gSqT, gAddI, gSubI, gMulI, gDivI, gModI, gAbs, gInt, gLen, gMax, gMin, gGt, gLt, gGe, gLe, List.map_cons, List.map_nil, List.length_cons, List.length_nil, List.replicate_succ, List.replicate_zero, List.cons_append, List.nil_append, List.append_nil, List.getElem?_cons_zero, List.getElem?_cons_succ, List.getElem?_nil, List.set_cons_zero, List.set_cons_succ, Option.join_some, Option.join_none, Option.bind_some, Option.bind_none, Nat.zero_add, Nat.reduceAdd, Nat.reduceSub, Nat.sub_zero, if_true, Bool.false_eq_true, if_false, ite_true, ite_false, gSet0, gSet1, gSet2, gIx0, gIx1, gIx2, gIxL0, gIxL1, gIxL2, gCmp, decide_true, decide_false, Bool.not_true, Bool.not_false, Option.map_some, liftL, iVal, iArg, dIsi, hv, tyN, isi, String.reduceBEq, Bool.false_and, Bool.or_false, isPr]
  | .list _, _ => simp only [fnD, dSeq, dSet, dRet, dRetS, dRetN, dCall, dCallB, dCallO, dCons, dNil, dVar, dSlot, dC, dOp, dIf, dIfS, dNx, dTest, dNotT, dAndT, dOrT, dAnd, dOr, dNot, dNeg, dTup, dLst, dPar, dAsg, dSetIx, dApp, dLenS, dIxS, atL, res, resA, lift, wb, R.bind, R.bind_ok, R.bind_exc, tN, tNil', tCons', tTup', tSq', gSqL, gSqT, gAddI, gSubI, gMulI, gDivI, gModI, gAbs, gInt, gLen, gMax, gMin, gGt, gLt, gGe, gLe, List.map_cons, List.map_nil, List.length_cons, List.length_nil, List.replicate_succ, List.replicate_zero, List.cons_append, List.nil_append, List.append_nil, List.getElem?_cons_zero, List.getElem?_cons_succ, List.getElem?_nil, List.set_cons_zero, List.set_cons_succ, Option.join_some, Option.join_none, Option.bind_some, Option.bind_none, Nat.zero_add, Nat.reduceAdd, Nat.reduceSub, Nat.sub_zero, if_true, Bool.false_eq_true, if_false, ite_true, ite_false, gSet0, gSet1, gSet2, gIx0, gIx1, gIx2, gIxL0, gIxL1, gIxL2, gCmp, decide_true, decide_false, Bool.not_true, Bool.not_false, Option.map_some, liftL, iVal, iArg, dIsi, hv, tyN, isi, String.reduceBEq, Bool.false_and, Bool.or_false, isPr]
  | .dict _, _ => simp only [fnD, dSeq, dSet, dRet, dRetS, dRetN, dCall, dCallB, dCallO, dCons, dNil, dVar, dSlot, dC, dOp, dIf, dIfS, dNx, dTest, dNotT, dAndT, dOrT, dAnd, dOr, dNot, dNeg, dTup, dLst, dPar, dAsg, dSetIx, dApp, dLenS, dIxS, atL, res, resA, lift, wb, R.bind, R.bind_ok, R.bind_exc, tN, tNil', tCons', tTup', tSq', gSqL, gSqT, gAddI, gSubI, gMulI, gDivI, gModI, gAbs, gInt, gLen, gMax, gMin, gGt, gLt, gGe, gLe, List.map_cons, List.map_nil, List.length_cons, List.length_nil, List.replicate_succ, List.replicate_zero, List.cons_append, List.nil_append, List.append_nil, List.getElem?_cons_zero, List.getElem?_cons_succ, List.getElem?_nil, List.set_cons_zero, List.set_cons_succ, Option.join_some, Option.join_none, Option.bind_some, Option.bind_none, Nat.zero_add, Nat.reduceAdd, Nat.reduceSub, Nat.sub_zero, if_true, Bool.false_eq_true, if_false, ite_true, ite_false, gSet0, gSet1, gSet2, gIx0, gIx1, gIx2, gIxL0, gIxL1, gIxL2, gCmp, decide_true, decide_false, Bool.not_true, Bool.not_false, Option.map_some, liftL, iVal, iArg, dIsi, hv, tyN, isi, String.reduceBEq, Bool.false_and, Bool.or_false, isPr]
  | .tuple [], _ =>
    have n : gNe (.int 0) (.int 2) = some (.bool true) := by rw [gNe_int]; rfl
    simp only [fnD, dSeq, dSet, dRet, dRetS, dRetN, dCall, dCallB, dCallO, dCons, dNil, dVar, dSlot, dC, dOp, dIf, dIfS, dNx, dTest, dNotT, dAndT, dOrT, dAnd, dOr, dNot, dNeg, dTup, dLst, dPar, dAsg, dSetIx, dApp, dLenS, dIxS, atL, res, resA, lift, wb, R.bind, R.bind_ok, R.bind_exc, tN, tNil', tCons', tTup', tSq', gSqL, gSqT, gAddI, gSubI, gMulI, gDivI, gModI, gAbs, gInt, gLen, gMax, gMin, gGt, gLt, gGe, gLe, List.map_cons, List.map_nil, List.length_cons, List.length_nil, List.replicate_succ, List.replicate_zero, List.cons_append, List.nil_append, List.append_nil, List.getElem?_cons_zero, List.getElem?_cons_succ, List.getElem?_nil, List.set_cons_zero, List.set_cons_succ, Option.join_some, Option.join_none, Option.bind_some, Option.bind_none, Nat.zero_add, Nat.reduceAdd, Nat.reduceSub, Nat.sub_zero, if_true, Bool.false_eq_true, if_false, ite_true, ite_false, gSet0, gSet1, gSet2, gIx0, gIx1, gIx2, gIxL0, gIxL1, gIxL2, gCmp, decide_true, decide_false, Bool.not_true, Bool.not_false, Option.map_some, liftL, iVal, iArg, dIsi, hv, tyN, isi, String.reduceBEq, beq_self_eq_true, Bool.true_or, isPr, Int.ofNat_zero, Int.natCast_zero, n]
  | .tuple [x], _ =>
    have n : gNe (.int 1) (.int 2) = some (.bool true) := by rw [gNe_int]; rfl
    simp only [fnD, dSeq, dSet, dRet, dRetS, dRetN, dCall, dCallB, dCallO, dCons, dNil, dVar, dSlot, dC, dOp, dIf, dIfS, dNx, dTest, dNotT, dAndT, dOrT, dAnd, dOr, dNot, dNeg, dTup, dLst, dPar, dAsg, dSetIx, dApp, dLenS, dIxS, atL, res, resA, lift, wb, R.bind, R.bind_ok, R.bind_exc, tN, tNil', tCons', tTup', tSq', gSqL, gSqT, gAddI, gSubI, gMulI, gDivI, gModI, gAbs, gInt, gLen, gMax, gMin, gGt, gLt, gGe, gLe, List.map_cons, List.map_nil, List.length_cons, List.length_nil, List.replicate_succ, List.replicate_zero, List.cons_append, List.nil_append, List.append_nil, List.getElem?_cons_zero, List.getElem?_cons_succ, List.getElem?_nil, List.set_cons_zero, List.set_cons_succ, Option.join_some, Option.join_none, Option.bind_some, Option.bind_none, Nat.zero_add, Nat.reduceAdd, Nat.reduceSub, Nat.sub_zero, if_true, Bool.false_eq_true, if_false, ite_true, ite_false, gSet0, gSet1, gSet2, gIx0, gIx1, gIx2, gIxL0, gIxL1, gIxL2, gCmp, decide_true, decide_false, Bool.not_true, Bool.not_false, Option.map_some, liftL, iVal, iArg, dIsi, hv, tyN, isi, String.reduceBEq, beq_self_eq_true, Bool.true_or, isPr, Int.natCast_one, n]
  | .tuple (x :: y :: z :: r), _ =>
    have n : gNe (.int ((x :: y :: z :: r).length : Int)) (.int 2) = some (.bool true) := by
      rw [gNe_int, decide_eq_false (by simp only [List.length_cons]; omega)]; rfl
    have gl : gLen [.tuple (x :: y :: z :: r)] = some (.int ((x :: y :: z :: r).length : Int)) := rfl
    have hp : isPr (.tuple (x :: y :: z :: r)) = false := rfl
    generalize x :: y :: z :: r = L at *
    simp only [gLen] at gl
    simp only [fnD, dSeq, dSet, dRet, dRetS, dRetN, dCall, dCallB, dCallO, dCons, dNil, dVar, dSlot, dC, dOp, dIf, dIfS, dNx, dTest, dNotT, dAndT, dOrT, dAnd, dOr, dNot, dNeg, dTup, dLst, dPar, dAsg, dSetIx, dApp, dLenS, dIxS, atL, res, resA, lift, wb, R.bind, R.bind_ok, R.bind_exc, tN, tNil', tCons', tTup', tSq', gSqL, gSqT, gAddI, gSubI, gMulI, gDivI, gModI, gAbs, gInt, gLen, gMax, gMin, gGt, gLt, gGe, gLe, List.map_cons, List.map_nil, List.length_cons, List.length_nil, List.replicate_succ, List.replicate_zero, List.cons_append, List.nil_append, List.append_nil, List.getElem?_cons_zero, List.getElem?_cons_succ, List.getElem?_nil, List.set_cons_zero, List.set_cons_succ, Option.join_some, Option.join_none, Option.bind_some, Option.bind_none, Nat.zero_add, Nat.reduceAdd, Nat.reduceSub, Nat.sub_zero, if_true, Bool.false_eq_true, if_false, ite_true, ite_false, gSet0, gSet1, gSet2, gIx0, gIx1, gIx2, gIxL0, gIxL1, gIxL2, gCmp, decide_true, decide_false, Bool.not_true, Bool.not_false, Option.map_some, liftL, iVal, iArg, dIsi, hv, tyN, isi, String.reduceBEq, beq_self_eq_true, Bool.true_or, hp, n]
  | .tuple [x, y], hc =>
    have n : gNe (.int 2) (.int 2) = some (.bool false) := by rw [gNe_int]; rfl
    have hc := hc x y rfl
    have al : gAll [.list [.bool (isNum x), .bool (isNum y)]] = some (.bool (isNum x && (isNum y && true))) := all_bls [x, y] isNum
    have ip : isPr (.tuple [x, y]) = (isNum x && (isNum y && true)) := by rw [Bool.and_true]; rfl
    rw [ip]
    generalize (isNum x && (isNum y && true)) = B at *
    generalize isNum x = b1 at *
    generalize isNum y = b2 at *
    have gl : ((1 + 1 : Nat) : Int) = 2 := rfl
    simp only [fnD, dSeq, dSet, dRet, dRetS, dRetN, dCall, dCallB, dCallO, dCons, dNil, dVar, dSlot, dC, dOp, dIf, dIfS, dNx, dTest, dNotT, dAndT, dOrT, dAnd, dOr, dNot, dNeg, dTup, dLst, dPar, dAsg, dSetIx, dApp, dLenS, dIxS, atL, res, resA, lift, wb, R.bind, R.bind_ok, R.bind_exc, tN, tNil', tCons', tTup', tSq', gSqL, gSqT, gAddI, gSubI, gMulI, gDivI, gModI, gAbs, gInt, gLen, gMax, gMin, gGt, gLt, gGe, gLe, List.map_cons, List.map_nil, List.length_cons, List.length_nil, List.replicate_succ, List.replicate_zero, List.cons_append, List.nil_append, List.append_nil, List.getElem?_cons_zero, List.getElem?_cons_succ, List.getElem?_nil, List.set_cons_zero, List.set_cons_succ, Option.join_some, Option.join_none, Option.bind_some, Option.bind_none, Nat.zero_add, Nat.reduceAdd, Nat.reduceSub, Nat.sub_zero, if_true, Bool.false_eq_true, if_false, ite_true, ite_false, gSet0, gSet1, gSet2, gIx0, gIx1, gIx2, gIxL0, gIxL1, gIxL2, gCmp, decide_true, decide_false, Bool.not_true, Bool.not_false, Option.map_some, liftL, iVal, iArg, dIsi, hv, tyN, isi, String.reduceBEq, beq_self_eq_true, Bool.true_or, gl, n, hc, al]
theorem dseq_nx {f g : Den Fl} {ρ r : Rho} (h : f ρ = .ok .nx r) : dSeq f g ρ = g r := by
  unfold dSeq
  rw [h]
  rfl
theorem dseq_ret {f g : Den Fl} {ρ r : Rho} {d : D} (h : f ρ = .ok (.ret d) r) : dSeq f g ρ = .ok (.ret d) r := by
  unfold dSeq
  rw [h]
  rfl
theorem ifs_f {h : Den Bool} {f g : Den Fl} {ρ r : Rho} (e : h ρ = .ok false r) : dIfS h f g ρ = g r := by
  unfold dIfS
  rw [e]
  rfl
theorem ifs_t {h : Den Bool} {f g : Den Fl} {ρ r : Rho} (e : h ρ = .ok true r) : dIfS h f g ρ = f r := by
  unfold dIfS
  rw [e]
  rfl
theorem fn1 {N : Nat} {den : Den Fl} {d v : D} {r : Rho} (h : den ([some d] ++ List.replicate (N - 1) none) = .ok (.ret v) r) : fnD N [] den [d] = .ok v [] := by
  unfold fnD
  show (match den ([some d] ++ List.replicate (N - 1) none) with | .ok .nx r => R.ok PyData.none [] | .ok (.ret d) r => .ok d [] | .exc c es r => .exc c es [] | .stuck => .stuck) = _
  rw [h]
theorem isPr_true {d : D} (h : isPr d = true) : ∃ t u : Int, d = .tuple [.int t, .int u] := by
  unfold isPr at h
  split at h
  · rename_i x y
    rw [Bool.and_eq_true] at h
    obtain ⟨h1, h2⟩ := h
    unfold isNum at h1 h2
    split at h1
    · split at h2
      · exact ⟨_, _, rfl⟩
      · cases h2
    · cases h1
  · cases h
def isFrB : D → Bool
  | .tuple [.int t, .int u] => decide (0 < u) && decide (Nat.gcd t.natAbs u.natAbs = 1)
  | _ => false
def isPaneB : D → Bool
  | .tuple [.int t, .int u] => decide (0 < u) && (decide (Nat.gcd t.natAbs u.natAbs = 1) && decide ((t.natAbs : Int) < u))
  | _ => false
theorem fr_no {d : D} (h : isPr d = false) : isFrB d = false ∧ isPaneB d = false := by
  constructor
  · unfold isFrB
    split
    · cases (show true = false from h)
    · rfl
  · unfold isPaneB
    split
    · cases (show true = false from h)
    · rfl
theorem num_lc {ρ : Rho} {N : Nat} {x y : D} (h : ρ = [some (.tuple [x, y])] ++ List.replicate N none) (hN : 1 ≤ N) : dLc [1] (iSq (dVar 0)) (tN 1) dYes (dCall [] [none] [] [] fn_is_number (dCons (dVar 1) dNil)) ρ = .ok (.list [.bool (isNum x), .bool (isNum y)]) ρ := by
  subst h
  obtain ⟨M, rfl⟩ : ∃ M, N = M + 1 := ⟨N - 1, by omega⟩
  exact lc_num (i := 0) (j := 1) (ds := [x, y]) (show 2 ≤ lim by decide) rfl (fun d hd => rfl) (fun d hd => rfl) (fun d hd => rfl)
theorem abs_nat1 (t : Int) : (if t < 0 then -t else t) = (t.natAbs : Int) := by split <;> omega
theorem sem_frB {d : D} (h : thT 13 d = true) : fn_is_frac [d] = .ok (.bool (isFrB d)) [] := by
  have hv : dVar 0 [some d, none, none, none] = .ok d [some d, none, none, none] := rfl
  have g := guard3 (i := 0) (LC := dLc [1] (iSq (dVar 0)) (tN 1) dYes (dCall [] [none] [] [] fn_is_number (dCons (dVar 1) dNil))) hv (fun x y e => by subst e; exact num_lc (N := 3) rfl (by decide))
  cases hp : isPr d with
  | false =>
    rw [hp] at g
    rw [(fr_no hp).1]
    exact fn1 (N := 4) (r := [some d, none, none, none]) (dseq_ret (ifs_t g))
  | true =>
    rw [hp] at g
    obtain ⟨t, u, rfl⟩ := isPr_true hp
    refine fn1 (N := 4) (r := [some (.tuple [.int t, .int u]), none, some (.int t), some (.int u)]) ((dseq_nx (ifs_f g)).trans ?_)
    show _ = R.ok (Fl.ret (.bool (decide (0 < u) && decide (Nat.gcd t.natAbs u.natAbs = 1)))) _
    have hu := thT_int.mp (thT_tup.mp h (.int u) (by simp))
    have gg : gGt (.int u) (.int 0) = some (.bool (decide (0 < u))) := rfl
    simp only [gGt] at gg
    by_cases h0 : 0 < u
    · have cm := sem_common t.natAbs u.natAbs (Nat.lt_of_lt_of_le hu (Nat.pow_le_pow_right (by decide) (by decide)))
      rw [show ((u.natAbs : Nat) : Int) = u by omega] at cm
      have ab := abs_nat1 t
      have ge : gEq (.int ((Nat.gcd t.natAbs u.natAbs : Nat) : Int)) (.int 1) = some (.bool (decide (Nat.gcd t.natAbs u.natAbs = 1))) := by
        rw [eq_ints]
        congr 2
        exact decide_eq_decide.mpr (by omega)
      have tr : decide (0 < u) = true := decide_eq_true h0
      simp only [fnD, dSeq, dSet, dRet, dRetS, dRetN, dCall, dCallB, dCallO, dCons, dNil, dVar, dSlot, dC, dOp, dIf, dIfS, dNx, dTest, dNotT, dAndT, dOrT, dAnd, dOr, dNot, dNeg, dTup, dLst, dPar, dAsg, dSetIx, dApp, dLenS, dIxS, atL, res, resA, lift, wb, R.bind, R.bind_ok, R.bind_exc, tN, tNil', tCons', tTup', tSq', gSqL, gSqT, gAddI, gSubI, gMulI, gDivI, gModI, gAbs, gInt, gLen, gMax, gMin, gGt, gLt, gGe, gLe, List.map_cons, List.map_nil, List.length_cons, List.length_nil, List.replicate_succ, List.replicate_zero, List.cons_append, List.nil_append, List.append_nil, List.getElem?_cons_zero, List.getElem?_cons_succ, List.getElem?_nil, List.set_cons_zero, List.set_cons_succ, Option.join_some, Option.join_none, Option.bind_some, Option.bind_none, Nat.zero_add, Nat.reduceAdd, Nat.reduceSub, Nat.sub_zero, if_true, Bool.false_eq_true, if_false, ite_true, ite_false, gSet0, gSet1, gSet2, gIx0, gIx1, gIx2, gIxL0, gIxL1, gIxL2, gCmp, decide_true, decide_false, Bool.not_true, Bool.not_false, Option.map_some, liftL, iVal, iArg, dNx, gg, tr, ab, cm, ge, Bool.true_and]
    · have tr : decide (0 < u) = false := decide_eq_false h0
      simp only [fnD, dSeq, dSet, dRet, dRetS, dRetN, dCall, dCallB, dCallO, dCons, dNil, dVar, dSlot, dC, dOp, dIf, dIfS, dNx, dTest, dNotT, dAndT, dOrT, dAnd, dOr, dNot, dNeg, dTup, dLst, dPar, dAsg, dSetIx, dApp, dLenS, dIxS, atL, res, resA, lift, wb, R.bind, R.bind_ok, R.bind_exc, tN, tNil', tCons', tTup', tSq', gSqL, gSqT, gAddI, gSubI, gMulI, gDivI, gModI, gAbs, gInt, gLen, gMax, gMin, gGt, gLt, gGe, gLe, List.map_cons, List.map_nil, List.length_cons, List.length_nil, List.replicate_succ, List.replicate_zero, List.cons_append, List.nil_append, List.append_nil, List.getElem?_cons_zero, List.getElem?_cons_succ, List.getElem?_nil, List.set_cons_zero, List.set_cons_succ, Option.join_some, Option.join_none, Option.bind_some, Option.bind_none, Nat.zero_add, Nat.reduceAdd, Nat.reduceSub, Nat.sub_zero, if_true, Bool.false_eq_true, if_false, ite_true, ite_false, gSet0, gSet1, gSet2, gIx0, gIx1, gIx2, gIxL0, gIxL1, gIxL2, gCmp, decide_true, decide_false, Bool.not_true, Bool.not_false, Option.map_some, liftL, iVal, iArg, dNx, gg, tr, Bool.false_and]
theorem sem_panB {d : D} (h : thT 13 d = true) : fn_is_pane [d] = .ok (.bool (isPaneB d)) [] := by
  have f := sem_frB h
  cases hp : isPr d with
  | false =>
    rw [(fr_no hp).1] at f
    rw [(fr_no hp).2]
    simp only [fn_is_pane, den_is_pane, fnD, dSeq, dSet, dRet, dRetS, dRetN, dCall, dCallB, dCallO, dCons, dNil, dVar, dSlot, dC, dOp, dIf, dIfS, dNx, dTest, dNotT, dAndT, dOrT, dAnd, dOr, dNot, dNeg, dTup, dLst, dPar, dAsg, dSetIx, dApp, dLenS, dIxS, atL, res, resA, lift, wb, R.bind, R.bind_ok, R.bind_exc, tN, tNil', tCons', tTup', tSq', gSqL, gSqT, gAddI, gSubI, gMulI, gDivI, gModI, gAbs, gInt, gLen, gMax, gMin, gGt, gLt, gGe, gLe, List.map_cons, List.map_nil, List.length_cons, List.length_nil, List.replicate_succ, List.replicate_zero, List.cons_append, List.nil_append, List.append_nil, List.getElem?_cons_zero, List.getElem?_cons_succ, List.getElem?_nil, List.set_cons_zero, List.set_cons_succ, Option.join_some, Option.join_none, Option.bind_some, Option.bind_none, Nat.zero_add, Nat.reduceAdd, Nat.reduceSub, Nat.sub_zero, if_true, Bool.false_eq_true, if_false, ite_true, ite_false, gSet0, gSet1, gSet2, gIx0, gIx1, gIx2, gIxL0, gIxL1, gIxL2, gCmp, decide_true, decide_false, Bool.not_true, Bool.not_false, Option.map_some, liftL, iVal, iArg, f]
  | true =>
    obtain ⟨t, u, rfl⟩ := isPr_true hp
    have f : fn_is_frac [.tuple [.int t, .int u]] = .ok (.bool (decide (0 < u) && decide (Nat.gcd t.natAbs u.natAbs = 1))) [] := f
    show _ = R.ok (PyData.bool (decide (0 < u) && (decide (Nat.gcd t.natAbs u.natAbs = 1) && decide ((t.natAbs : Int) < u)))) []
    have ab := abs_nat1 t
    have gg : gLt (.int (t.natAbs : Int)) (.int u) = some (.bool (decide ((t.natAbs : Int) < u))) := rfl
    simp only [gLt] at gg
    cases hb : (decide (0 < u) && decide (Nat.gcd t.natAbs u.natAbs = 1)) with
    | false =>
      rw [hb] at f
      rw [← Bool.and_assoc, hb]
      simp only [fn_is_pane, den_is_pane, fnD, dSeq, dSet, dRet, dRetS, dRetN, dCall, dCallB, dCallO, dCons, dNil, dVar, dSlot, dC, dOp, dIf, dIfS, dNx, dTest, dNotT, dAndT, dOrT, dAnd, dOr, dNot, dNeg, dTup, dLst, dPar, dAsg, dSetIx, dApp, dLenS, dIxS, atL, res, resA, lift, wb, R.bind, R.bind_ok, R.bind_exc, tN, tNil', tCons', tTup', tSq', gSqL, gSqT, gAddI, gSubI, gMulI, gDivI, gModI, gAbs, gInt, gLen, gMax, gMin, gGt, gLt, gGe, gLe, List.map_cons, List.map_nil, List.length_cons, List.length_nil, List.replicate_succ, List.replicate_zero, List.cons_append, List.nil_append, List.append_nil, List.getElem?_cons_zero, List.getElem?_cons_succ, List.getElem?_nil, List.set_cons_zero, List.set_cons_succ, Option.join_some, Option.join_none, Option.bind_some, Option.bind_none, Nat.zero_add, Nat.reduceAdd, Nat.reduceSub, Nat.sub_zero, if_true, Bool.false_eq_true, if_false, ite_true, ite_false, gSet0, gSet1, gSet2, gIx0, gIx1, gIx2, gIxL0, gIxL1, gIxL2, gCmp, decide_true, decide_false, Bool.not_true, Bool.not_false, Option.map_some, liftL, iVal, iArg, f, Bool.false_and]
    | true =>
      rw [hb] at f
      rw [← Bool.and_assoc, hb]
      simp only [fn_is_pane, den_is_pane, fnD, dSeq, dSet, dRet, dRetS, dRetN, dCall, dCallB, dCallO, dCons, dNil, dVar, dSlot, dC, dOp, dIf, dIfS, dNx, dTest, dNotT, dAndT, dOrT, dAnd, dOr, dNot, dNeg, dTup, dLst, dPar, dAsg, dSetIx, dApp, dLenS, dIxS, atL, res, resA, lift, wb, R.bind, R.bind_ok, R.bind_exc, tN, tNil', tCons', tTup', tSq', gSqL, gSqT, gAddI, gSubI, gMulI, gDivI, gModI, gAbs, gInt, gLen, gMax, gMin, gGt, gLt, gGe, gLe, List.map_cons, List.map_nil, List.length_cons, List.length_nil, List.replicate_succ, List.replicate_zero, List.cons_append, List.nil_append, List.append_nil, List.getElem?_cons_zero, List.getElem?_cons_succ, List.getElem?_nil, List.set_cons_zero, List.set_cons_succ, Option.join_some, Option.join_none, Option.bind_some, Option.bind_none, Nat.zero_add, Nat.reduceAdd, Nat.reduceSub, Nat.sub_zero, if_true, Bool.false_eq_true, if_false, ite_true, ite_false, gSet0, gSet1, gSet2, gIx0, gIx1, gIx2, gIxL0, gIxL1, gIxL2, gCmp, decide_true, decide_false, Bool.not_true, Bool.not_false, Option.map_some, liftL, iVal, iArg, f, ab, gg, Bool.true_and]
theorem eq_frac {t u : Int} (hu : 0 < u) : gEq (fr ((t : Rat) / (u : Rat))) (.tuple [.int t, .int u]) = some (.bool (decide (Nat.gcd t.natAbs u.natAbs = 1))) := by
  by_cases h : Nat.gcd t.natAbs u.natAbs = 1
  · rw [fr_mk hu (by show Nat.gcd u.natAbs t.natAbs = 1; rw [Nat.gcd_comm]; exact h), gEq_fr, decide_eq_true rfl, decide_eq_true h]
  · generalize (t : Rat) / (u : Rat) = q
    show (if SeqAt.shaped (fr q) && SeqAt.shaped (.tuple [.int t, .int u]) then some (PyData.bool (PyData.eqv (fr q) (.tuple [.int t, .int u]))) else none) = _
    rw [if_pos (by rfl), decide_eq_false h]
    have e : PyData.eqv (fr q) (.tuple [.int t, .int u]) = (decide (q.num = t) && (decide ((q.den : Int) = u) && true)) := by
      simp only [fr, PyData.eqv, PyData.eqvAll]
      rfl
    rw [e]
    by_cases h1 : q.num = t
    · by_cases h2 : (q.den : Int) = u
      · exact absurd (by rw [← h1, ← h2]; exact q.reduced) h
      · rw [decide_eq_false h2, decide_eq_true h1]; rfl
    · rw [decide_eq_false h1]; rfl
def isP2 : D → Bool
  | .tuple [_, _] => true
  | _ => false
def isPT : D → Bool
  | .tuple [.tuple _, _] => true
  | _ => false
def tupAll : D → Bool
  | .tuple ps => ps.all isPaneB
  | _ => false
def isW : D → Bool
  | .int w => decide (-1 ≤ w) && decide (w ≤ 1)
  | _ => false
def isRowB : D → Bool
  | .tuple [p, w] => tupAll p && isW w
  | _ => false
theorem len_ne {ds : List D} (h : ds.length ≠ 2) : gNe (.int (ds.length : Int)) (.int 2) = some (.bool true) := by
  rw [gNe_int, decide_eq_false (by omega)]; rfl
theorem p2_no {ds : List D} (h : ds.length ≠ 2) : isP2 (.tuple ds) = false ∧ isPT (.tuple ds) = false := by
  match ds, h with
  | [], _ => exact ⟨rfl, rfl⟩
  | [x], _ => exact ⟨rfl, by cases x <;> rfl⟩
  | x :: _ :: _ :: _, _ => exact ⟨rfl, by cases x <;> rfl⟩
theorem guard2 {i : Nat} {ρ : Rho} {d : D} (hv : dVar i ρ = .ok d ρ) :
    dOrT (dNotT (dTest (dIsi "tuple" none (dVar i)))) (dTest (dOp none none gNe (dCallB [none] gLen (dCons (dVar i) dNil)) (dC (.int 2)))) ρ = .ok (!isP2 d) ρ := by
  generalize dVar i = V at *
  cases d with
  | tuple ds =>
    by_cases hl : ds.length = 2
    · match ds, hl with
      | [x, y], _ =>
        have n : gNe (.int 2) (.int 2) = some (.bool false) := by rw [gNe_int]; rfl
        have gl : ((1 + 1 : Nat) : Int) = 2 := rfl
        simp only [fnD, dSeq, dSet, dRet, dRetS, dRetN, dCall, dCallB, dCallO, dCons, dNil, dVar, dSlot, dC, dOp, dIf, dIfS, dNx, dTest, dNotT, dAndT, dOrT, dAnd, dOr, dNot, dNeg, dTup, dLst, dPar, dAsg, dSetIx, dApp, dLenS, dIxS, atL, res, resA, lift, wb, R.bind, R.bind_ok, R.bind_exc, tN, tNil', tCons', tTup', tSq', gSqL, gSqT, gAddI, gSubI, gMulI, gDivI, gModI, gAbs, gInt, gLen, gMax, gMin, gGt, gLt, gGe, gLe, List.map_cons, List.map_nil, List.length_cons, List.length_nil, List.replicate_succ, List.replicate_zero, List.cons_append, List.nil_append, List.append_nil, List.getElem?_cons_zero, List.getElem?_cons_succ, List.getElem?_nil, List.set_cons_zero, List.set_cons_succ, Option.join_some, Option.join_none, Option.bind_some, Option.bind_none, Nat.zero_add, Nat.reduceAdd, Nat.reduceSub, Nat.sub_zero, if_true, Bool.false_eq_true, if_false, ite_true, ite_false, gSet0, gSet1, gSet2, gIx0, gIx1, gIx2, gIxL0, gIxL1, gIxL2, gCmp, decide_true, decide_false, Bool.not_true, Bool.not_false, Option.map_some, liftL, iVal, iArg, dIsi, hv, tyN, isi, String.reduceBEq, beq_self_eq_true, Bool.true_or, gl, n, isP2]
    · rw [(p2_no hl).1]
      have n := len_ne hl
      simp only [fnD, dSeq, dSet, dRet, dRetS, dRetN, dCall, dCallB, dCallO, dCons, dNil, dVar, dSlot, dC, dOp, dIf, dIfS, dNx, dTest, dNotT, dAndT, dOrT, dAnd, dOr, dNot, dNeg, dTup, dLst, dPar, dAsg, dSetIx, dApp, dLenS, dIxS, atL, res, resA, lift, wb, R.bind, R.bind_ok, R.bind_exc, tN, tNil', tCons', tTup', tSq', gSqL, gSqT, gAddI, gSubI, gMulI, gDivI, gModI, gAbs, gInt, gLen, gMax, gMin, gGt, gLt, gGe, gLe, List.map_cons, List.map_nil, List.length_cons, List.length_nil, List.replicate_succ, List.replicate_zero, List.cons_append, List.nil_append, List.append_nil, List.getElem?_cons_zero, List.getElem?_cons_succ, List.getElem?_nil, List.set_cons_zero, List.set_cons_succ, Option.join_some, Option.join_none, Option.bind_some, Option.bind_none, Nat.zero_add, Nat.reduceAdd, Nat.reduceSub, Nat.sub_zero, if_true, Bool.false_eq_true, if_false, ite_true, ite_false, gSet0, gSet1, gSet2, gIx0, gIx1, gIx2, gIxL0, gIxL1, gIxL2, gCmp, decide_true, decide_false, Bool.not_true, Bool.not_false, Option.map_some, liftL, iVal, iArg, dIsi, hv, tyN, isi, String.reduceBEq, beq_self_eq_true, Bool.true_or, n]
  | bool b => simp only [fnD, dSeq, dSet, dRet, dRetS, dRetN, dCall, dCallB, dCallO, dCons, dNil, dVar, dSlot, dC, dOp, dIf, dIfS, dNx, dTest, dNotT, dAndT, dOrT, dAnd, dOr, dNot, dNeg, dTup, dLst, dPar, dAsg, dSetIx, dApp, dLenS, dIxS, atL, res, resA, lift, wb, R.bind, R.bind_ok, R.bind_exc, tN, tNil', tCons', tTup', tSq', gSqL, gSqT, gAddI, gSubI, gMulI, gDivI, gModI, gAbs, gInt, gLen, gMax, gMin, gGt, gLt, gGe, gLe, List.map_cons, List.map_nil, List.length_cons, List.length_nil, List.replicate_succ, List.replicate_zero, List.cons_append, List.nil_append, List.append_nil, List.getElem?_cons_zero, List.getElem?_cons_succ, List.getElem?_nil, List.set_cons_zero, List.set_cons_succ, Option.join_some, Option.join_none, Option.bind_some, Option.bind_none, Nat.zero_add, Nat.reduceAdd, Nat.reduceSub, Nat.sub_zero, if_true, Bool.false_eq_true, if_false, ite_true, ite_false, gSet0, gSet1, gSet2, gIx0, gIx1, gIx2, gIxL0, gIxL1, gIxL2, gCmp, decide_true, decide_false, Bool.not_true, Bool.not_false, Option.map_some, liftL, iVal, iArg, dIsi, hv, tyN, isi, String.reduceBEq, Bool.false_and, Bool.or_false, isP2]; rfl
  | _ => simp only [fnD, dSeq, dSet, dRet, dRetS, dRetN, dCall, dCallB, dCallO, dCons, dNil, dVar, dSlot, dC, dOp, dIf, dIfS, dNx, dTest, dNotT, dAndT, dOrT, dAnd, dOr, dNot, dNeg, dTup, dLst, dPar, dAsg, dSetIx, dApp, dLenS, dIxS, atL, res, resA, lift, wb, R.bind, R.bind_ok, R.bind_exc, tN, tNil', tCons', tTup', tSq', gSqL, gSqT, gAddI, gSubI, gMulI, gDivI, gModI, gAbs, gInt, gLen, gMax, gMin, gGt, gLt, gGe, gLe, List.map_cons, List.map_nil, List.length_cons, List.length_nil, List.replicate_succ, List.replicate_zero, List.cons_append, List.nil_append, List.append_nil, List.getElem?_cons_zero, List.getElem?_cons_succ, List.getElem?_nil, List.set_cons_zero, List.set_cons_succ, Option.join_some, Option.join_none, Option.bind_some, Option.bind_none, Nat.zero_add, Nat.reduceAdd, Nat.reduceSub, Nat.sub_zero, if_true, Bool.false_eq_true, if_false, ite_true, ite_false, gSet0, gSet1, gSet2, gIx0, gIx1, gIx2, gIxL0, gIxL1, gIxL2, gCmp, decide_true, decide_false, Bool.not_true, Bool.not_false, Option.map_some, liftL, iVal, iArg, dIsi, hv, tyN, isi, String.reduceBEq, Bool.false_and, Bool.or_false, isP2]
theorem guardPT {i : Nat} {ρ : Rho} {d : D} (hv : dVar i ρ = .ok d ρ) :
    dOrT (dNotT (dTest (dIsi "tuple" none (dVar i)))) (dOrT (dTest (dOp none none gNe (dCallB [none] gLen (dCons (dVar i) dNil)) (dC (.int 2)))) (dNotT (dTest (dIsi "tuple" none (dOp none none gIx (dVar i) (dC (.int 0))))))) ρ = .ok (!isPT d) ρ := by
  generalize dVar i = V at *
  cases d with
  | tuple ds =>
    by_cases hl : ds.length = 2
    · match ds, hl with
      | [x, y], _ =>
        have n : gNe (.int 2) (.int 2) = some (.bool false) := by rw [gNe_int]; rfl
        have gl : ((1 + 1 : Nat) : Int) = 2 := rfl
        cases x with
        | bool b => simp only [fnD, dSeq, dSet, dRet, dRetS, dRetN, dCall, dCallB, dCallO, dCons, dNil, dVar, dSlot, dC, dOp, dIf, dIfS, dNx, dTest, dNotT, dAndT, dOrT, dAnd, dOr, dNot, dNeg, dTup, dLst, dPar, dAsg, dSetIx, dApp, dLenS, dIxS, atL, res, resA, lift, wb, R.bind, R.bind_ok, R.bind_exc, tN, tNil', tCons', tTup', tSq', gSqL, gSqT, gAddI, gSubI, gMulI, gDivI, gModI, gAbs, gInt, gLen, gMax, gMin, gGt, gLt, gGe, gLe, List.map_cons, List.map_nil, List.length_cons, List.length_nil, List.replicate_succ, List.replicate_zero, List.cons_append, List.nil_append, List.append_nil, List.getElem?_cons_zero, List.getElem?_cons_succ, List.getElem?_nil, List.set_cons_zero, List.set_cons_succ, Option.join_some, Option.join_none, Option.bind_some, Option.bind_none, Nat.zero_add, Nat.reduceAdd, Nat.reduceSub, Nat.sub_zero, if_true, Bool.false_eq_true, if_false, ite_true, ite_false, gSet0, gSet1, gSet2, gIx0, gIx1, gIx2, gIxL0, gIxL1, gIxL2, gCmp, decide_true, decide_false, Bool.not_true, Bool.not_false, Option.map_some, liftL, iVal, iArg, dIsi, hv, tyN, isi, String.reduceBEq, beq_self_eq_true, Bool.true_or, Bool.false_and, Bool.or_false, gl, n, isPT]; rfl
        | _ => simp only [fnD, dSeq, dSet, dRet, dRetS, dRetN, dCall, dCallB, dCallO, dCons, dNil, dVar, dSlot, dC, dOp, dIf, dIfS, dNx, dTest, dNotT, dAndT, dOrT, dAnd, dOr, dNot, dNeg, dTup, dLst, dPar, dAsg, dSetIx, dApp, dLenS, dIxS, atL, res, resA, lift, wb, R.bind, R.bind_ok, R.bind_exc, tN, tNil', tCons', tTup', tSq', gSqL, gSqT, gAddI, gSubI, gMulI, gDivI, gModI, gAbs, gInt, gLen, gMax, gMin, gGt, gLt, gGe, gLe, List.map_cons, List.map_nil, List.length_cons, List.length_nil, List.replicate_succ, List.replicate_zero, List.cons_append, List.nil_append, List.append_nil, List.getElem?_cons_zero, List.getElem?_cons_succ, List.getElem?_nil, List.set_cons_zero, List.set_cons_succ, Option.join_some, Option.join_none, Option.bind_some, Option.bind_none, Nat.zero_add, Nat.reduceAdd, Nat.reduceSub, Nat.sub_zero, if_true, Bool.false_eq_true, if_false, ite_true, ite_false, gSet0, gSet1, gSet2, gIx0, gIx1, gIx2, gIxL0, gIxL1, gIxL2, gCmp, decide_true, decide_false, Bool.not_true, Bool.not_false, Option.map_some, liftL, iVal, iArg, dIsi, hv, tyN, isi, String.reduceBEq, beq_self_eq_true, Bool.true_or, Bool.false_and, Bool.or_false, gl, n, isPT]
    · rw [(p2_no hl).2]
      have n := len_ne hl
      simp only [fnD, dSeq, dSet, dRet, dRetS, dRetN, dCall, dCallB, dCallO, dCons, dNil, dVar, dSlot, dC, dOp, dIf, dIfS, dNx, dTest, dNotT, dAndT, dOrT, dAnd, dOr, dNot, dNeg, dTup, dLst, dPar, dAsg, dSetIx, dApp, dLenS, dIxS, atL, res, resA, lift, wb, R.bind, R.bind_ok, R.bind_exc, tN, tNil', tCons', tTup', tSq', gSqL, gSqT, gAddI, gSubI, gMulI, gDivI, gModI, gAbs, gInt, gLen, gMax, gMin, gGt, gLt, gGe, gLe, List.map_cons, List.map_nil, List.length_cons, List.length_nil, List.replicate_succ, List.replicate_zero, List.cons_append, List.nil_append, List.append_nil, List.getElem?_cons_zero, List.getElem?_cons_succ, List.getElem?_nil, List.set_cons_zero, List.set_cons_succ, Option.join_some, Option.join_none, Option.bind_some, Option.bind_none, Nat.zero_add, Nat.reduceAdd, Nat.reduceSub, Nat.sub_zero, if_true, Bool.false_eq_true, if_false, ite_true, ite_false, gSet0, gSet1, gSet2, gIx0, gIx1, gIx2, gIxL0, gIxL1, gIxL2, gCmp, decide_true, decide_false, Bool.not_true, Bool.not_false, Option.map_some, liftL, iVal, iArg, dIsi, hv, tyN, isi, String.reduceBEq, beq_self_eq_true, Bool.true_or, n]
  | bool b => simp only [fnD, dSeq, dSet, dRet, dRetS, dRetN, dCall, dCallB, dCallO, dCons, dNil, dVar, dSlot, dC, dOp, dIf, dIfS, dNx, dTest, dNotT, dAndT, dOrT, dAnd, dOr, dNot, dNeg, dTup, dLst, dPar, dAsg, dSetIx, dApp, dLenS, dIxS, atL, res, resA, lift, wb, R.bind, R.bind_ok, R.bind_exc, tN, tNil', tCons', tTup', tSq', gSqL, gSqT, gAddI, gSubI, gMulI, gDivI, gModI, gAbs, gInt, gLen, gMax, gMin, gGt, gLt, gGe, gLe, List.map_cons, List.map_nil, List.length_cons, List.length_nil, List.replicate_succ, List.replicate_zero, List.cons_append, List.nil_append, List.append_nil, List.getElem?_cons_zero, List.getElem?_cons_succ, List.getElem?_nil, List.set_cons_zero, List.set_cons_succ, Option.join_some, Option.join_none, Option.bind_some, Option.bind_none, Nat.zero_add, Nat.reduceAdd, Nat.reduceSub, Nat.sub_zero, if_true, Bool.false_eq_true, if_false, ite_true, ite_false, gSet0, gSet1, gSet2, gIx0, gIx1, gIx2, gIxL0, gIxL1, gIxL2, gCmp, decide_true, decide_false, Bool.not_true, Bool.not_false, Option.map_some, liftL, iVal, iArg, dIsi, hv, tyN, isi, String.reduceBEq, Bool.false_and, Bool.or_false, isPT]; rfl
  | _ => simp only [fnD, dSeq, dSet, dRet, dRetS, dRetN, dCall, dCallB, dCallO, dCons, dNil, dVar, dSlot, dC, dOp, dIf, dIfS, dNx, dTest, dNotT, dAndT, dOrT, dAnd, dOr, dNot, dNeg, dTup, dLst, dPar, dAsg, dSetIx, dApp, dLenS, dIxS, atL, res, resA, lift, wb, R.bind, R.bind_ok, R.bind_exc, tN, tNil', tCons', tTup', tSq', gSqL, gSqT, gAddI, gSubI, gMulI, gDivI, gModI, gAbs, gInt, gLen, gMax, gMin, gGt, gLt, gGe, gLe, List.map_cons, List.map_nil, List.length_cons, List.length_nil, List.replicate_succ, List.replicate_zero, List.cons_append, List.nil_append, List.append_nil, List.getElem?_cons_zero, List.getElem?_cons_succ, List.getElem?_nil, List.set_cons_zero, List.set_cons_succ, Option.join_some, Option.join_none, Option.bind_some, Option.bind_none, Nat.zero_add, Nat.reduceAdd, Nat.reduceSub, Nat.sub_zero, if_true, Bool.false_eq_true, if_false, ite_true, ite_false, gSet0, gSet1, gSet2, gIx0, gIx1, gIx2, gIxL0, gIxL1, gIxL2, gCmp, decide_true, decide_false, Bool.not_true, Bool.not_false, Option.map_some, liftL, iVal, iArg, dIsi, hv, tyN, isi, String.reduceBEq, Bool.false_and, Bool.or_false, isPT]
theorem guardT {i : Nat} {ρ : Rho} {p : D} {LC : Den D} (hv : dVar i ρ = .ok p ρ) (hc : ∀ ps, p = .tuple ps → LC ρ = .ok (.list (ps.map fun d => .bool (isPaneB d))) ρ) :
    dOrT (dNotT (dTest (dIsi "tuple" none (dVar i)))) (dNotT (dTest (dCallB [none] gAll (dCons LC dNil)))) ρ = .ok (!tupAll p) ρ := by
  generalize dVar i = V at *
  cases p with
  | tuple ps =>
    have hc := hc ps rfl
    have al := all_bls ps isPaneB
    show _ = R.ok (!(ps.all isPaneB)) ρ
    generalize ps.map (fun d => PyData.bool (isPaneB d)) = L at *
    simp only [gAll] at al
    simp only [fnD, dSeq, dSet, dRet, dRetS, dRetN, dCall, dCallB, dCallO, dCons, dNil, dVar, dSlot, dC, dOp, dIf, dIfS, dNx, dTest, dNotT, dAndT, dOrT, dAnd, dOr, dNot, dNeg, dTup, dLst, dPar, dAsg, dSetIx, dApp, dLenS, dIxS, atL, res, resA, lift, wb, R.bind, R.bind_ok, R.bind_exc, tN, tNil', tCons', tTup', tSq', gSqL, gSqT, gAddI, gSubI, gMulI, gDivI, gModI, gAbs, gInt, gLen, gMax, gMin, gGt, gLt, gGe, gLe, List.map_cons, List.map_nil, List.length_cons, List.length_nil, List.replicate_succ, List.replicate_zero, List.cons_append, List.nil_append, List.append_nil, List.getElem?_cons_zero, List.getElem?_cons_succ, List.getElem?_nil, List.set_cons_zero, List.set_cons_succ, Option.join_some, Option.join_none, Option.bind_some, Option.bind_none, Nat.zero_add, Nat.reduceAdd, Nat.reduceSub, Nat.sub_zero, if_true, Bool.false_eq_true, if_false, ite_true, ite_false, gSet0, gSet1, gSet2, gIx0, gIx1, gIx2, gIxL0, gIxL1, gIxL2, gCmp, decide_true, decide_false, Bool.not_true, Bool.not_false, Option.map_some, liftL, iVal, iArg, dIsi, hv, tyN, isi, String.reduceBEq, beq_self_eq_true, Bool.true_or, hc, gAll, al]
  | bool b => simp only [fnD, dSeq, dSet, dRet, dRetS, dRetN, dCall, dCallB, dCallO, dCons, dNil, dVar, dSlot, dC, dOp, dIf, dIfS, dNx, dTest, dNotT, dAndT, dOrT, dAnd, dOr, dNot, dNeg, dTup, dLst, dPar, dAsg, dSetIx, dApp, dLenS, dIxS, atL, res, resA, lift, wb, R.bind, R.bind_ok, R.bind_exc, tN, tNil', tCons', tTup', tSq', gSqL, gSqT, gAddI, gSubI, gMulI, gDivI, gModI, gAbs, gInt, gLen, gMax, gMin, gGt, gLt, gGe, gLe, List.map_cons, List.map_nil, List.length_cons, List.length_nil, List.replicate_succ, List.replicate_zero, List.cons_append, List.nil_append, List.append_nil, List.getElem?_cons_zero, List.getElem?_cons_succ, List.getElem?_nil, List.set_cons_zero, List.set_cons_succ, Option.join_some, Option.join_none, Option.bind_some, Option.bind_none, Nat.zero_add, Nat.reduceAdd, Nat.reduceSub, Nat.sub_zero, if_true, Bool.false_eq_true, if_false, ite_true, ite_false, gSet0, gSet1, gSet2, gIx0, gIx1, gIx2, gIxL0, gIxL1, gIxL2, gCmp, decide_true, decide_false, Bool.not_true, Bool.not_false, Option.map_some, liftL, iVal, iArg, dIsi, hv, tyN, isi, String.reduceBEq, Bool.false_and, Bool.or_false, tupAll]; rfl
  | _ => simp only [fnD, dSeq, dSet, dRet, dRetS, dRetN, dCall, dCallB, dCallO, dCons, dNil, dVar, dSlot, dC, dOp, dIf, dIfS, dNx, dTest, dNotT, dAndT, dOrT, dAnd, dOr, dNot, dNeg, dTup, dLst, dPar, dAsg, dSetIx, dApp, dLenS, dIxS, atL, res, resA, lift, wb, R.bind, R.bind_ok, R.bind_exc, tN, tNil', tCons', tTup', tSq', gSqL, gSqT, gAddI, gSubI, gMulI, gDivI, gModI, gAbs, gInt, gLen, gMax, gMin, gGt, gLt, gGe, gLe, List.map_cons, List.map_nil, List.length_cons, List.length_nil, List.replicate_succ, List.replicate_zero, List.cons_append, List.nil_append, List.append_nil, List.getElem?_cons_zero, List.getElem?_cons_succ, List.getElem?_nil, List.set_cons_zero, List.set_cons_succ, Option.join_some, Option.join_none, Option.bind_some, Option.bind_none, Nat.zero_add, Nat.reduceAdd, Nat.reduceSub, Nat.sub_zero, if_true, Bool.false_eq_true, if_false, ite_true, ite_false, gSet0, gSet1, gSet2, gIx0, gIx1, gIx2, gIxL0, gIxL1, gIxL2, gCmp, decide_true, decide_false, Bool.not_true, Bool.not_false, Option.map_some, liftL, iVal, iArg, dIsi, hv, tyN, isi, String.reduceBEq, Bool.false_and, Bool.or_false, tupAll]
theorem pan_lc {F : Fn} {j : Nat} {ρ : Rho} {ds : List D} (hF : ∀ d ∈ ds, F [d] = .ok (.bool (isPaneB d)) []) (hl : ds.length ≤ lim) {fi : Den (List D)} (hi : fi ρ = .ok ds ρ) (h : ∀ d ∈ ds, tN j d (wipeR ρ [j]) = some ((wipeR ρ [j]).set j (some d))) (h2 : ∀ d ∈ ds, wipeR ((wipeR ρ [j]).set j (some d)) [j] = wipeR ρ [j]) (h3 : ∀ d ∈ ds, dVar j ((wipeR ρ [j]).set j (some d)) = .ok d ((wipeR ρ [j]).set j (some d))) :
    dLc [j] fi (tN j) dYes (dCall [] [none] [] [] F (dCons (dVar j) dNil)) ρ = .ok (.list (ds.map fun d => .bool (isPaneB d))) ρ := lc_map (fun d => .bool (isPaneB d)) hi hl fun d hd => by
  refine ⟨_, h d hd, h2 d hd, ?_⟩
  have e := hF d hd
  have h3 := h3 d hd
  generalize (wipeR ρ [j]).set j (some d) = r at *
  show (((dVar j r).bind fun x r1 => R.ok [x] r1).bind _) = _
  rw [h3]
  show (match F [d] with | .ok d os => R.ok d (wb [] os r) | .exc c es os => .exc c es (wb [] os r) | .stuck => .stuck) = _
  rw [e]
  rfl
theorem p2_true {d : D} (h : isP2 d = true) : ∃ x y, d = .tuple [x, y] := by
  unfold isP2 at h
  split at h
  · exact ⟨_, _, rfl⟩
  · cases h
theorem pt_true {d : D} (h : isPT d = true) : ∃ ps y, d = .tuple [.tuple ps, y] := by
  unfold isPT at h
  split at h
  · exact ⟨_, _, rfl⟩
  · cases h
theorem row_no2 {d : D} (h : isP2 d = false) : isRowB d = false := by
  unfold isRowB
  split
  · cases (show true = false from h)
  · rfl
theorem row_noT {d : D} (h : isPT d = false) : isRowB d = false := by
  unfold isRowB
  split
  · rename_i p w
    unfold tupAll
    split
    · cases (show true = false from h)
    · rfl
  · rfl
theorem gIn_w (w : Int) : gIn (.int w) (.tuple [.int (-1), .int 0, .int 1]) = some (.bool (decide (-1 ≤ w) && decide (w ≤ 1))) := by
  show some (PyData.bool (inV (.int w) [.int (-1), .int 0, .int 1])) = _
  have e : inV (.int w) [.int (-1), .int 0, .int 1] = (((-1 : Int) == w) || (((0 : Int) == w) || (((1 : Int) == w) || false))) := rfl
  rw [e]
  congr 2
  by_cases h1 : w = -1
  · subst h1; rfl
  by_cases h2 : w = 0
  · subst h2; rfl
  by_cases h3 : w = 1
  · subst h3; rfl
  rw [beq_eq_false_iff_ne.mpr (fun z => h1 z.symm), beq_eq_false_iff_ne.mpr (fun z => h2 z.symm), beq_eq_false_iff_ne.mpr (fun z => h3 z.symm)]
  symm
  simp
  omega
theorem sem_rowB {k n : Nat} {d : D} (h : Th 13 k n d) (hn : n ≤ 900000) : fn_is_row [d] = .ok (.bool (isRowB d)) [] := by
  have hv : dVar 0 [some d, none, none, none] = .ok d [some d, none, none, none] := rfl
  have g := guard2 (i := 0) hv
  cases hp : isP2 d with
  | false =>
    rw [hp] at g
    rw [row_no2 hp]
    exact fn1 (N := 4) (r := [some d, none, none, none]) (dseq_ret (ifs_t g))
  | true =>
    rw [hp] at g
    obtain ⟨p, w, rfl⟩ := p2_true hp
    obtain ⟨hm, -, -⟩ := h.mem
    have hp1 := hm p (by simp)
    have g2 := guardT (i := 1) (ρ := [some (.tuple [p, w]), some p, some w, none]) (p := p) (LC := dLc [3] (iSq (dVar 1)) (tN 3) dYes (dCall [] [none] [] [] fn_is_pane (dCons (dVar 3) dNil))) rfl (fun ps e => by
      subst e
      obtain ⟨hm2, hl2, -⟩ := hp1.mem
      exact pan_lc (fun d hd => sem_panB (hm2 d hd).ok) (Nat.le_trans hl2 (by show n ≤ 1000000; omega)) rfl (fun d hd => rfl) (fun d hd => rfl) (fun d hd => rfl))
    refine fn1 (N := 4) (r := [some (.tuple [p, w]), some p, some w, none]) ((dseq_nx (ifs_f g)).trans ?_)
    refine (dseq_nx (show dAsg (tSq' 2 (tCons' (tN 1) (tCons' (tN 2) tNil'))) (dVar 0) [some (.tuple [p, w]), none, none, none] = .ok .nx [some (.tuple [p, w]), some p, some w, none] from rfl)).trans ?_
    show _ = R.ok (Fl.ret (.bool (tupAll p && isW w))) _
    cases ht : tupAll p with
    | false =>
      rw [ht] at g2
      exact dseq_ret (ifs_t g2)
    | true =>
      rw [ht] at g2
      refine (dseq_nx (ifs_f g2)).trans ?_
      have e := sem_isnum w
      rw [Bool.true_and]
      cases w with
      | int w =>
        have gi := gIn_w w
        simp only [isNum] at e
        simp only [fnD, dSeq, dSet, dRet, dRetS, dRetN, dCall, dCallB, dCallO, dCons, dNil, dVar, dSlot, dC, dOp, dIf, dIfS, dNx, dTest, dNotT, dAndT, dOrT, dAnd, dOr, dNot, dNeg, dTup, dLst, dPar, dAsg, dSetIx, dApp, dLenS, dIxS, atL, res, resA, lift, wb, R.bind, R.bind_ok, R.bind_exc, tN, tNil', tCons', tTup', tSq', gSqL, gSqT, gAddI, gSubI, gMulI, gDivI, gModI, gAbs, gInt, gLen, gMax, gMin, gGt, gLt, gGe, gLe, List.map_cons, List.map_nil, List.length_cons, List.length_nil, List.replicate_succ, List.replicate_zero, List.cons_append, List.nil_append, List.append_nil, List.getElem?_cons_zero, List.getElem?_cons_succ, List.getElem?_nil, List.set_cons_zero, List.set_cons_succ, Option.join_some, Option.join_none, Option.bind_some, Option.bind_none, Nat.zero_add, Nat.reduceAdd, Nat.reduceSub, Nat.sub_zero, if_true, Bool.false_eq_true, if_false, ite_true, ite_false, gSet0, gSet1, gSet2, gIx0, gIx1, gIx2, gIxL0, gIxL1, gIxL2, gCmp, decide_true, decide_false, Bool.not_true, Bool.not_false, Option.map_some, liftL, iVal, iArg, e, gi, isW]
      | _ =>
        simp only [isNum] at e
        simp only [fnD, dSeq, dSet, dRet, dRetS, dRetN, dCall, dCallB, dCallO, dCons, dNil, dVar, dSlot, dC, dOp, dIf, dIfS, dNx, dTest, dNotT, dAndT, dOrT, dAnd, dOr, dNot, dNeg, dTup, dLst, dPar, dAsg, dSetIx, dApp, dLenS, dIxS, atL, res, resA, lift, wb, R.bind, R.bind_ok, R.bind_exc, tN, tNil', tCons', tTup', tSq', gSqL, gSqT, gAddI, gSubI, gMulI, gDivI, gModI, gAbs, gInt, gLen, gMax, gMin, gGt, gLt, gGe, gLe, List.map_cons, List.map_nil, List.length_cons, List.length_nil, List.replicate_succ, List.replicate_zero, List.cons_append, List.nil_append, List.append_nil, List.getElem?_cons_zero, List.getElem?_cons_succ, List.getElem?_nil, List.set_cons_zero, List.set_cons_succ, Option.join_some, Option.join_none, Option.bind_some, Option.bind_none, Nat.zero_add, Nat.reduceAdd, Nat.reduceSub, Nat.sub_zero, if_true, Bool.false_eq_true, if_false, ite_true, ite_false, gSet0, gSet1, gSet2, gIx0, gIx1, gIx2, gIxL0, gIxL1, gIxL2, gCmp, decide_true, decide_false, Bool.not_true, Bool.not_false, Option.map_some, liftL, iVal, iArg, e, isW]
def thB (b k n : Nat) (d : D) : Bool := thT b d && (decide (PyData.depth d ≤ k) && decide (PyData.weight d ≤ n))
theorem th_of {b k n : Nat} {d : D} (h : thB b k n d = true) : Th b k n d := by
  unfold thB at h
  simp only [Bool.and_eq_true, decide_eq_true_eq] at h
  exact ⟨h.1, h.2.1, h.2.2⟩
theorem th_all {b k n : Nat} {l : List D} (h : l.all (thB b k n) = true) : ∀ d ∈ l, Th b k n d := fun d hd => th_of (List.all_eq_true.mp h d hd)
theorem th_row {b k : Nat} {L : List D} {w : D} {m nw : Nat} (h1 : ∀ d ∈ L, thT b d = true ∧ PyData.depth d ≤ k) (h2 : PyData.weightAll L ≤ m) (hw : thT b w = true ∧ PyData.depth w ≤ k + 1 ∧ PyData.weight w ≤ nw) : Th b (k + 2) (m + nw + 2) (.tuple [.tuple L, w]) := by
  have d1 : PyData.depthAll L ≤ k := dpA.mpr fun d hd => (h1 d hd).2
  refine ⟨thT_tup.mpr fun d hd => ?_, ?_, ?_⟩
  · simp only [List.mem_cons, List.not_mem_nil, or_false] at hd
    rcases hd with rfl | rfl
    · exact thT_tup.mpr fun d hd => (h1 d hd).1
    · exact hw.1
  · simp only [PyData.depth, PyData.depthAll]
    have := hw.2.1
    omega
  · simp only [PyData.weight, PyData.weightAll]
    have := hw.2.2
    omega
theorem wt_take (ps : List D) (a : Nat) : PyData.weightAll (ps.take a) ≤ PyData.weightAll ps := by
  conv => rhs; rw [← List.take_append_drop a ps, wtA_app]
  omega
theorem wt_drop (ps : List D) (a : Nat) : PyData.weightAll (ps.drop a) ≤ PyData.weightAll ps := by
  conv => rhs; rw [← List.take_append_drop a ps, wtA_app]
  omega
theorem wt_cut (ps : List D) (lo hi : Option Int) : PyData.weightAll (cut ps lo hi) ≤ PyData.weightAll ps := by
  unfold cut
  exact Nat.le_trans (wt_take _ _) (wt_drop _ _)
theorem mem_cut {ps : List D} {lo hi : Option Int} {d : D} (h : d ∈ cut ps lo hi) : d ∈ ps := by
  unfold cut at h
  exact List.mem_of_mem_drop (List.mem_of_mem_take h)
theorem len_cut (ps : List D) (lo hi : Option Int) : (cut ps lo hi).length ≤ ps.length := by
  unfold cut
  rw [List.length_take, List.length_drop]
  omega
theorem th_fr {q : Rat} (s : Sm 6 q) : Th 6 1 28 (fr q) := by
  have h1 := s.num
  have h2 := s.dn
  exact Th.tup (k := 0) (n := 13) (fun d hd => by
    simp only [List.mem_cons, List.not_mem_nil, or_false] at hd
    rcases hd with rfl | rfl
    · exact th_int h1 (by decide)
    · exact th_int h2 (by decide)) (Nat.le_of_ble_eq_true rfl)
theorem wt_frs : ∀ {ps : List Rat}, (∀ p ∈ ps, Pane p) → PyData.weightAll (ps.map fr) ≤ ps.length * 29
  | [], _ => by simp [PyData.weightAll]
  | p :: ps, h => by
    have h1 := (th_fr (h p List.mem_cons_self).sm).wt
    have h2 := wt_frs fun q hq => h q (List.mem_cons_of_mem _ hq)
    simp only [List.map_cons, PyData.weightAll, List.length_cons]
    omega
theorem th_rowD {ps : List Rat} {w : D} {nw : Nat} (hp : ∀ p ∈ ps, Pane p) (hw : Th 6 1 nw w) {m : Nat} (hm : ps.length * 29 ≤ m) : Th 6 3 (m + nw + 2) (.tuple [.tuple (ps.map fr), w]) :=
  th_row (k := 1) (fun d hd => by
    obtain ⟨p, hpm, rfl⟩ := List.mem_map.mp hd
    exact ⟨(th_fr (hp p hpm).sm).ok, (th_fr (hp p hpm).sm).dp⟩) (Nat.le_trans (wt_frs hp) hm) ⟨hw.ok, Nat.le_trans hw.dp (by decide), hw.wt⟩
theorem isRow_D {ps : List Rat} {w : Int} (hp : ∀ p ∈ ps, Pane p) (hw : w = 0 ∨ w = 1 ∨ w = -1) : isRowB (rowD ps w) = true := by
  have h1 : (ps.map fr).all isPaneB = true := List.all_eq_true.mpr fun d hd => by
    obtain ⟨p, hm, rfl⟩ := List.mem_map.mp hd
    have lo := (hp p hm).lo
    have hi := (hp p hm).hi
    show (decide ((0 : Int) < (p.den : Int)) && (decide (Nat.gcd p.num.natAbs (p.den : Int).natAbs = 1) && decide ((p.num.natAbs : Int) < (p.den : Int)))) = true
    have dp : 0 < p.den := p.den_pos
    have g : Nat.gcd p.num.natAbs (p.den : Int).natAbs = 1 := p.reduced
    have n1 : p.num * (1 : Int) < (1 : Int) * (p.den : Int) := of_decide_eq_true ((rat_lt p 1).trans (decide_eq_true hi))
    have n2 : (-1 : Int) * (p.den : Int) < p.num * (1 : Int) := of_decide_eq_true ((rat_lt (-1) p).trans (decide_eq_true lo))
    rw [decide_eq_true (show (0 : Int) < (p.den : Int) by omega), decide_eq_true g, decide_eq_true (show (p.num.natAbs : Int) < (p.den : Int) by omega)]
    rfl
  show ((ps.map fr).all isPaneB && isW (.int w)) = true
  rw [h1]
  rcases hw with rfl | rfl | rfl <;> rfl
theorem isi_int (d : D) : isi (tyN d) "int" = true ↔ (isNum d = true ∨ ∃ b, d = .bool b) := by
  cases d <;> simp [tyN, isi, isNum]
theorem num_te (d : D) {ρ : Rho} {j : Nat} (h : dVar j ρ = .ok d ρ) : dAnd (dIsi "int" none (dVar j)) (dNot (dIsi "bool" none (dVar j))) ρ = .ok (.bool (isNum d)) ρ := by
  generalize dVar j = V at *
  cases d <;> simp only [fnD, dSeq, dSet, dRet, dRetS, dRetN, dCall, dCallB, dCallO, dCons, dNil, dVar, dSlot, dC, dOp, dIf, dIfS, dNx, dTest, dNotT, dAndT, dOrT, dAnd, dOr, dNot, dNeg, dTup, dLst, dPar, dAsg, dSetIx, dApp, dLenS, dIxS, atL, res, resA, lift, wb, R.bind, R.bind_ok, R.bind_exc, tN, tNil', tCons', tTup', tSq', gSqL, gSqT, gAddI, gSubI, gMulI, gDivI, gModI, gAbs, gInt, gLen, gMax, gMin, gGt, gLt, gGe, gLe, List.map_cons, List.map_nil, List.length_cons, List.length_nil, List.replicate_succ, List.replicate_zero, List.cons_append, List.nil_append, List.append_nil, List.getElem?_cons_zero, List.getElem?_cons_succ, List.getElem?_nil, List.set_cons_zero, List.set_cons_succ, Option.join_some, Option.join_none, Option.bind_some, Option.bind_none, Nat.zero_add, Nat.reduceAdd, Nat.reduceSub, Nat.sub_zero, if_true, Bool.false_eq_true, if_false, ite_true, ite_false, gSet0, gSet1, gSet2, gIx0, gIx1, gIx2, gIxL0, gIxL1, gIxL2, gCmp, decide_true, decide_false, Bool.not_true, Bool.not_false, Option.map_some, liftL, iVal, iArg, dIsi, h, tyN, isi, String.reduceBEq, Bool.false_and, Bool.and_false, Bool.or_false, Bool.false_or, Bool.true_or, Bool.or_true, beq_self_eq_true, isNum, Bool.and_self, Bool.and_true] <;> rfl
theorem num_lc2 {x0 : Option D} {x y : D} {x2 : Option D} : dLc [2] (iSq (dVar 1)) (tN 2) dYes (dAnd (dIsi "int" none (dVar 2)) (dNot (dIsi "bool" none (dVar 2)))) [x0, some (.tuple [x, y]), x2] = .ok (.list [.bool (isNum x), .bool (isNum y)]) [x0, some (.tuple [x, y]), x2] :=
  lc_map (fun d => .bool (isNum d)) (ds := [x, y]) rfl (show 2 ≤ lim by decide) fun d hd => ⟨[x0, some (.tuple [x, y]), some d], rfl, rfl, num_te d rfl⟩
/-- a pane of the row looked at -/
theorem pane25 {x0 x2 : Option D} {d : D} (h : thT 13 d = true) : den_law_is_row_b0 [x0, some d, x2] = .ok (if isPaneB d = true then .nx else .ret (.bool false)) [x0, some d, x2] := by
  have g := guard2 (i := 1) (ρ := [x0, some d, x2]) (d := d) rfl
  cases hp : isP2 d with
  | false =>
    rw [hp] at g
    have : isPaneB d = false := by
      unfold isPaneB
      split
      · cases (show true = false from hp)
      · rfl
    rw [this]
    exact dseq_ret (ifs_t g)
  | true =>
    rw [hp] at g
    obtain ⟨x, y, rfl⟩ := p2_true hp
    refine (dseq_nx (ifs_f g)).trans ?_
    have lc := num_lc2 (x0 := x0) (x := x) (y := y) (x2 := x2)
    have al : gAll [.list [.bool (isNum x), .bool (isNum y)]] = some (.bool (isNum x && (isNum y && true))) := all_bls [x, y] isNum
    obtain ⟨LC, hL⟩ : ∃ LC, dLc [2] (iSq (dVar 1)) (tN 2) dYes (dAnd (dIsi "int" none (dVar 2)) (dNot (dIsi "bool" none (dVar 2)))) = LC := ⟨_, rfl⟩
    rw [hL] at lc
    have gA : dTest (dCallB [none] gAll (dCons LC dNil)) [x0, some (.tuple [x, y]), x2] = .ok (isNum x && (isNum y && true)) [x0, some (.tuple [x, y]), x2] := by
      generalize (isNum x && (isNum y && true)) = B at *
      generalize isNum x = b1 at *
      generalize isNum y = b2 at *
      simp only [fnD, dSeq, dSet, dRet, dRetS, dRetN, dCall, dCallB, dCallO, dCons, dNil, dVar, dSlot, dC, dOp, dIf, dIfS, dNx, dTest, dNotT, dAndT, dOrT, dAnd, dOr, dNot, dNeg, dTup, dLst, dPar, dAsg, dSetIx, dApp, dLenS, dIxS, atL, res, resA, lift, wb, R.bind, R.bind_ok, R.bind_exc, tN, tNil', tCons', tTup', tSq', gSqL, gSqT, gAddI, gSubI, gMulI, gDivI, gModI, gAbs, gInt, gLen, gMax, gMin, gGt, gLt, gGe, gLe, List.map_cons, List.map_nil, List.length_cons, List.length_nil, List.replicate_succ, List.replicate_zero, List.cons_append, List.nil_append, List.append_nil, List.getElem?_cons_zero, List.getElem?_cons_succ, List.getElem?_nil, List.set_cons_zero, List.set_cons_succ, Option.join_some, Option.join_none, Option.bind_some, Option.bind_none, Nat.zero_add, Nat.reduceAdd, Nat.reduceSub, Nat.sub_zero, if_true, Bool.false_eq_true, if_false, ite_true, ite_false, gSet0, gSet1, gSet2, gIx0, gIx1, gIx2, gIxL0, gIxL1, gIxL2, gCmp, decide_true, decide_false, Bool.not_true, Bool.not_false, Option.map_some, liftL, iVal, iArg, lc, al]
    rw [← hL] at gA
    cases hn : (isNum x && (isNum y && true)) with
    | false =>
      rw [hn] at gA
      have hpn : isPaneB (.tuple [x, y]) = false := (fr_no (by show (isNum x && isNum y) = false; rw [Bool.and_true] at hn; exact hn)).2
      rw [hpn]
      refine dseq_ret (ifs_t (r := [x0, some (.tuple [x, y]), x2]) ?_)
      generalize dCallB [none] gAll (dCons (dLc [2] (iSq (dVar 1)) (tN 2) dYes (dAnd (dIsi "int" none (dVar 2)) (dNot (dIsi "bool" none (dVar 2))))) dNil) = GA at *
      simp only [dOrT, dNotT, gA, R.bind, Bool.not_false, if_true]
    | true =>
      rw [hn] at gA
      obtain ⟨t, u, he⟩ := isPr_true (d := .tuple [x, y]) (by show (isNum x && isNum y) = true; rw [Bool.and_true] at hn; exact hn)
      cases he
      have hu := thT_int.mp (thT_tup.mp h (.int u) (by simp))
      have ht := thT_int.mp (thT_tup.mp h (.int t) (by simp))
      show _ = R.ok (if (decide (0 < u) && (decide (Nat.gcd t.natAbs u.natAbs = 1) && decide ((t.natAbs : Int) < u))) = true then Fl.nx else .ret (.bool false)) _
      have gL : dOrT (dNotT (dTest (dCallB [none] gAll (dCons (dLc [2] (iSq (dVar 1)) (tN 2) dYes (dAnd (dIsi "int" none (dVar 2)) (dNot (dIsi "bool" none (dVar 2))))) dNil)))) (dTest (dOp none none gLt (dOp none none gIx (dVar 1) (dC (.int 1))) (dC (.int 1)))) [x0, some (.tuple [.int t, .int u]), x2] = .ok (decide (u < 1)) [x0, some (.tuple [.int t, .int u]), x2] := by
        generalize dCallB [none] gAll (dCons (dLc [2] (iSq (dVar 1)) (tN 2) dYes (dAnd (dIsi "int" none (dVar 2)) (dNot (dIsi "bool" none (dVar 2))))) dNil) = GA at *
        unfold dOrT dNotT
        rw [gA]
        simp only [fnD, dSeq, dSet, dRet, dRetS, dRetN, dCall, dCallB, dCallO, dCons, dNil, dVar, dSlot, dC, dOp, dIf, dIfS, dNx, dTest, dNotT, dAndT, dOrT, dAnd, dOr, dNot, dNeg, dTup, dLst, dPar, dAsg, dSetIx, dApp, dLenS, dIxS, atL, res, resA, lift, wb, R.bind, R.bind_ok, R.bind_exc, tN, tNil', tCons', tTup', tSq', gSqL, gSqT, gAddI, gSubI, gMulI, gDivI, gModI, gAbs, gInt, gLen, gMax, gMin, gGt, gLt, gGe, gLe, List.map_cons, List.map_nil, List.length_cons, List.length_nil, List.replicate_succ, List.replicate_zero, List.cons_append, List.nil_append, List.append_nil, List.getElem?_cons_zero, List.getElem?_cons_succ, List.getElem?_nil, List.set_cons_zero, List.set_cons_succ, Option.join_some, Option.join_none, Option.bind_some, Option.bind_none, Nat.zero_add, Nat.reduceAdd, Nat.reduceSub, Nat.sub_zero, if_true, Bool.false_eq_true, if_false, ite_true, ite_false, gSet0, gSet1, gSet2, gIx0, gIx1, gIx2, gIxL0, gIxL1, gIxL2, gCmp, decide_true, decide_false, Bool.not_true, Bool.not_false, Option.map_some, liftL, iVal, iArg]
      by_cases h0 : 0 < u
      · rw [decide_eq_false (show ¬ u < 1 by omega)] at gL
        rw [decide_eq_true h0, Bool.true_and]
        refine (dseq_nx (ifs_f gL)).trans ?_
        have f1 := sem_law_frac (t := t) (b := u) (by omega) (bits_ok (by omega)) (bits_ok (by omega))
        have ge := eq_frac (t := t) h0
        have gn : gNe (fr ((t : Rat) / (u : Rat))) (.tuple [.int t, .int u]) = some (.bool (!decide (Nat.gcd t.natAbs u.natAbs = 1))) := by
          have e1 : gEq (fr ((t : Rat) / (u : Rat))) (.tuple [.int t, .int u]) = some (.bool (PyData.eqv (fr ((t : Rat) / (u : Rat))) (.tuple [.int t, .int u]))) := if_pos (by rfl)
          have e2 : gNe (fr ((t : Rat) / (u : Rat))) (.tuple [.int t, .int u]) = some (.bool (!PyData.eqv (fr ((t : Rat) / (u : Rat))) (.tuple [.int t, .int u]))) := if_pos (by rfl)
          rw [e1] at ge
          rw [e2, PyData.bool.inj (Option.some.inj ge)]
        have ab := abs_nat1 t
        generalize fr ((t : Rat) / (u : Rat)) = FQ at *
        cases hb : decide (Nat.gcd t.natAbs u.natAbs = 1) with
        | false =>
          rw [hb] at gn
          refine (ifs_t (r := [x0, some (.tuple [.int t, .int u]), x2]) ?_).trans rfl
          simp only [fnD, dSeq, dSet, dRet, dRetS, dRetN, dCall, dCallB, dCallO, dCons, dNil, dVar, dSlot, dC, dOp, dIf, dIfS, dNx, dTest, dNotT, dAndT, dOrT, dAnd, dOr, dNot, dNeg, dTup, dLst, dPar, dAsg, dSetIx, dApp, dLenS, dIxS, atL, res, resA, lift, wb, R.bind, R.bind_ok, R.bind_exc, tN, tNil', tCons', tTup', tSq', gSqL, gSqT, gAddI, gSubI, gMulI, gDivI, gModI, gAbs, gInt, gLen, gMax, gMin, gGt, gLt, gGe, gLe, List.map_cons, List.map_nil, List.length_cons, List.length_nil, List.replicate_succ, List.replicate_zero, List.cons_append, List.nil_append, List.append_nil, List.getElem?_cons_zero, List.getElem?_cons_succ, List.getElem?_nil, List.set_cons_zero, List.set_cons_succ, Option.join_some, Option.join_none, Option.bind_some, Option.bind_none, Nat.zero_add, Nat.reduceAdd, Nat.reduceSub, Nat.sub_zero, if_true, Bool.false_eq_true, if_false, ite_true, ite_false, gSet0, gSet1, gSet2, gIx0, gIx1, gIx2, gIxL0, gIxL1, gIxL2, gCmp, decide_true, decide_false, Bool.not_true, Bool.not_false, Option.map_some, liftL, iVal, iArg, f1, gn]
        | true =>
          rw [hb] at gn
          by_cases hl : (t.natAbs : Int) < u
          · rw [decide_eq_true hl]
            refine (ifs_f (r := [x0, some (.tuple [.int t, .int u]), x2]) ?_).trans rfl
            simp only [fnD, dSeq, dSet, dRet, dRetS, dRetN, dCall, dCallB, dCallO, dCons, dNil, dVar, dSlot, dC, dOp, dIf, dIfS, dNx, dTest, dNotT, dAndT, dOrT, dAnd, dOr, dNot, dNeg, dTup, dLst, dPar, dAsg, dSetIx, dApp, dLenS, dIxS, atL, res, resA, lift, wb, R.bind, R.bind_ok, R.bind_exc, tN, tNil', tCons', tTup', tSq', gSqL, gSqT, gAddI, gSubI, gMulI, gDivI, gModI, gAbs, gInt, gLen, gMax, gMin, gGt, gLt, gGe, gLe, List.map_cons, List.map_nil, List.length_cons, List.length_nil, List.replicate_succ, List.replicate_zero, List.cons_append, List.nil_append, List.append_nil, List.getElem?_cons_zero, List.getElem?_cons_succ, List.getElem?_nil, List.set_cons_zero, List.set_cons_succ, Option.join_some, Option.join_none, Option.bind_some, Option.bind_none, Nat.zero_add, Nat.reduceAdd, Nat.reduceSub, Nat.sub_zero, if_true, Bool.false_eq_true, if_false, ite_true, ite_false, gSet0, gSet1, gSet2, gIx0, gIx1, gIx2, gIxL0, gIxL1, gIxL2, gCmp, decide_true, decide_false, Bool.not_true, Bool.not_false, Option.map_some, liftL, iVal, iArg, f1, gn, ab, decide_eq_false (show ¬ u ≤ (t.natAbs : Int) by omega)]
          · rw [decide_eq_false hl]
            refine (ifs_t (r := [x0, some (.tuple [.int t, .int u]), x2]) ?_).trans rfl
            simp only [fnD, dSeq, dSet, dRet, dRetS, dRetN, dCall, dCallB, dCallO, dCons, dNil, dVar, dSlot, dC, dOp, dIf, dIfS, dNx, dTest, dNotT, dAndT, dOrT, dAnd, dOr, dNot, dNeg, dTup, dLst, dPar, dAsg, dSetIx, dApp, dLenS, dIxS, atL, res, resA, lift, wb, R.bind, R.bind_ok, R.bind_exc, tN, tNil', tCons', tTup', tSq', gSqL, gSqT, gAddI, gSubI, gMulI, gDivI, gModI, gAbs, gInt, gLen, gMax, gMin, gGt, gLt, gGe, gLe, List.map_cons, List.map_nil, List.length_cons, List.length_nil, List.replicate_succ, List.replicate_zero, List.cons_append, List.nil_append, List.append_nil, List.getElem?_cons_zero, List.getElem?_cons_succ, List.getElem?_nil, List.set_cons_zero, List.set_cons_succ, Option.join_some, Option.join_none, Option.bind_some, Option.bind_none, Nat.zero_add, Nat.reduceAdd, Nat.reduceSub, Nat.sub_zero, if_true, Bool.false_eq_true, if_false, ite_true, ite_false, gSet0, gSet1, gSet2, gIx0, gIx1, gIx2, gIxL0, gIxL1, gIxL2, gCmp, decide_true, decide_false, Bool.not_true, Bool.not_false, Option.map_some, liftL, iVal, iArg, f1, gn, ab, decide_eq_true (show u ≤ (t.natAbs : Int) by omega)]
      · rw [decide_eq_true (show u < 1 by omega)] at gL
        rw [decide_eq_false h0]
        exact dseq_ret (ifs_t gL)
theorem panes25 {x0 x2 : Option D} : ∀ {ps : List D} {x1 : Option D}, (∀ d ∈ ps, thT 13 d = true) → ∃ y1, forD (tN 1) den_law_is_row_b0 ps [x0, x1, x2] = .ok (if ps.all isPaneB = true then .nx else .ret (.bool false)) [x0, y1, x2]
  | [], x1, _ => ⟨x1, rfl⟩
  | d :: ps, x1, h => by
    have p := pane25 (x0 := x0) (x2 := x2) (h d List.mem_cons_self)
    obtain ⟨y1, e⟩ := panes25 (x0 := x0) (x2 := x2) (ps := ps) (x1 := some d) fun x hx => h x (List.mem_cons_of_mem _ hx)
    cases hd : isPaneB d with
    | true =>
      rw [hd] at p
      refine ⟨y1, ?_⟩
      rw [List.all_cons, hd, Bool.true_and, ← e]
      simp only [forD, tN, List.set_cons_succ, List.set_cons_zero, p, if_true, R.bind]
    | false =>
      rw [hd] at p
      refine ⟨some d, ?_⟩
      rw [List.all_cons, hd, Bool.false_and]
      simp only [forD, tN, List.set_cons_succ, List.set_cons_zero, p, Bool.false_eq_true, if_false, R.bind]
theorem gNotIn_w (w : Int) : gNotIn (.int w) (.tuple [.int 0, .int 1, .int (-1)]) = some (.bool (!(decide (-1 ≤ w) && decide (w ≤ 1)))) := by
  show some (PyData.bool (!inV (.int w) [.int 0, .int 1, .int (-1)])) = _
  have e : inV (.int w) [.int 0, .int 1, .int (-1)] = (((0 : Int) == w) || (((1 : Int) == w) || (((-1 : Int) == w) || false))) := rfl
  rw [e]
  congr 3
  by_cases h1 : w = -1
  · subst h1; rfl
  by_cases h2 : w = 0
  · subst h2; rfl
  by_cases h3 : w = 1
  · subst h3; rfl
  rw [beq_eq_false_iff_ne.mpr (fun z => h1 z.symm), beq_eq_false_iff_ne.mpr (fun z => h2 z.symm), beq_eq_false_iff_ne.mpr (fun z => h3 z.symm)]
  symm
  simp
  omega
theorem sem_lrow25 {k n : Nat} {d : D} (h : Th 13 k n d) : fn_law_is_row [d] = .ok (.bool (isRowB d)) [] := by
  have g := guardPT (i := 0) (ρ := [some d, none, none]) (d := d) rfl
  cases hp : isPT d with
  | false =>
    rw [hp] at g
    rw [row_noT hp]
    exact fn1 (N := 3) (r := [some d, none, none]) (dseq_ret (ifs_t g))
  | true =>
    rw [hp] at g
    obtain ⟨ps, w, rfl⟩ := pt_true hp
    obtain ⟨hm, -, -⟩ := h.mem
    obtain ⟨hm2, -, -⟩ := (hm (.tuple ps) (by simp)).mem
    show _ = R.ok (PyData.bool (ps.all isPaneB && isW w)) []
    have gw : (dOrT (dNotT (dTest (dIsi "int" none (dOp none none gIx (dVar 0) (dC (.int 1)))))) (dOrT (dTest (dIsi "bool" none (dOp none none gIx (dVar 0) (dC (.int 1))))) (dTest (dOp none none gNotIn (dOp none none gIx (dVar 0) (dC (.int 1))) (dTup (dCons (dC (.int 0)) (dCons (dC (.int 1)) (dCons (dNeg (dC (.int 1))) dNil)))))))) [some (.tuple [.tuple ps, w]), none, none] = .ok (!isW w) [some (.tuple [.tuple ps, w]), none, none] := by
      cases w with
      | int w =>
        have gn := gNotIn_w w
        simp only [fnD, dSeq, dSet, dRet, dRetS, dRetN, dCall, dCallB, dCallO, dCons, dNil, dVar, dSlot, dC, dOp, dIf, dIfS, dNx, dTest, dNotT, dAndT, dOrT, dAnd, dOr, dNot, dNeg, dTup, dLst, dPar, dAsg, dSetIx, dApp, dLenS, dIxS, atL, res, resA, lift, wb, R.bind, R.bind_ok, R.bind_exc, tN, tNil', tCons', tTup', tSq', gSqL, gSqT, gAddI, gSubI, gMulI, gDivI, gModI, gAbs, gInt, gLen, gMax, gMin, gGt, gLt, gGe, gLe, List.map_cons, List.map_nil, List.length_cons, List.length_nil, List.replicate_succ, List.replicate_zero, List.cons_append, List.nil_append, List.append_nil, List.getElem?_cons_zero, List.getElem?_cons_succ, List.getElem?_nil, List.set_cons_zero, List.set_cons_succ, Option.join_some, Option.join_none, Option.bind_some, Option.bind_none, Nat.zero_add, Nat.reduceAdd, Nat.reduceSub, Nat.sub_zero, if_true, Bool.false_eq_true, if_false, ite_true, ite_false, gSet0, gSet1, gSet2, gIx0, gIx1, gIx2, gIxL0, gIxL1, gIxL2, gCmp, decide_true, decide_false, Bool.not_true, Bool.not_false, Option.map_some, liftL, iVal, iArg, dIsi, tyN, isi, String.reduceBEq, Bool.false_and, Bool.and_false, Bool.or_false, Bool.false_or, Bool.true_or, Bool.or_true, beq_self_eq_true, gn, isW]
      | bool b => simp only [fnD, dSeq, dSet, dRet, dRetS, dRetN, dCall, dCallB, dCallO, dCons, dNil, dVar, dSlot, dC, dOp, dIf, dIfS, dNx, dTest, dNotT, dAndT, dOrT, dAnd, dOr, dNot, dNeg, dTup, dLst, dPar, dAsg, dSetIx, dApp, dLenS, dIxS, atL, res, resA, lift, wb, R.bind, R.bind_ok, R.bind_exc, tN, tNil', tCons', tTup', tSq', gSqL, gSqT, gAddI, gSubI, gMulI, gDivI, gModI, gAbs, gInt, gLen, gMax, gMin, gGt, gLt, gGe, gLe, List.map_cons, List.map_nil, List.length_cons, List.length_nil, List.replicate_succ, List.replicate_zero, List.cons_append, List.nil_append, List.append_nil, List.getElem?_cons_zero, List.getElem?_cons_succ, List.getElem?_nil, List.set_cons_zero, List.set_cons_succ, Option.join_some, Option.join_none, Option.bind_some, Option.bind_none, Nat.zero_add, Nat.reduceAdd, Nat.reduceSub, Nat.sub_zero, if_true, Bool.false_eq_true, if_false, ite_true, ite_false, gSet0, gSet1, gSet2, gIx0, gIx1, gIx2, gIxL0, gIxL1, gIxL2, gCmp, decide_true, decide_false, Bool.not_true, Bool.not_false, Option.map_some, liftL, iVal, iArg, dIsi, tyN, isi, String.reduceBEq, Bool.false_and, Bool.and_false, Bool.or_false, Bool.false_or, Bool.true_or, Bool.or_true, beq_self_eq_true, isW, Bool.and_self]
      | _ => simp only [fnD, dSeq, dSet, dRet, dRetS, dRetN, dCall, dCallB, dCallO, dCons, dNil, dVar, dSlot, dC, dOp, dIf, dIfS, dNx, dTest, dNotT, dAndT, dOrT, dAnd, dOr, dNot, dNeg, dTup, dLst, dPar, dAsg, dSetIx, dApp, dLenS, dIxS, atL, res, resA, lift, wb, R.bind, R.bind_ok, R.bind_exc, tN, tNil', tCons', tTup', tSq', gSqL, gSqT, gAddI, gSubI, gMulI, gDivI, gModI, gAbs, gInt, gLen, gMax, gMin, gGt, gLt, gGe, gLe, List.map_cons, List.map_nil, List.length_cons, List.length_nil, List.replicate_succ, List.replicate_zero, List.cons_append, List.nil_append, List.append_nil, List.getElem?_cons_zero, List.getElem?_cons_succ, List.getElem?_nil, List.set_cons_zero, List.set_cons_succ, Option.join_some, Option.join_none, Option.bind_some, Option.bind_none, Nat.zero_add, Nat.reduceAdd, Nat.reduceSub, Nat.sub_zero, if_true, Bool.false_eq_true, if_false, ite_true, ite_false, gSet0, gSet1, gSet2, gIx0, gIx1, gIx2, gIxL0, gIxL1, gIxL2, gCmp, decide_true, decide_false, Bool.not_true, Bool.not_false, Option.map_some, liftL, iVal, iArg, dIsi, tyN, isi, String.reduceBEq, Bool.false_and, Bool.and_false, Bool.or_false, Bool.false_or, Bool.true_or, Bool.or_true, beq_self_eq_true, isW]
    cases hw : isW w with
    | false =>
      rw [hw] at gw
      rw [Bool.and_false]
      exact fn1 (N := 3) (r := [some (.tuple [.tuple ps, w]), none, none]) ((dseq_nx (ifs_f g)).trans (dseq_ret (ifs_t gw)))
    | true =>
      rw [hw] at gw
      rw [Bool.and_true]
      obtain ⟨y1, e⟩ := panes25 (x0 := some (.tuple [.tuple ps, w])) (x1 := none) (x2 := none) fun d hd => (hm2 d hd).ok
      have fo : (dFor (iSq (dOp none none gIx (dVar 0) (dC (.int 0)))) (tN 1) den_law_is_row_b0) [some (.tuple [.tuple ps, w]), none, none] = .ok (if ps.all isPaneB = true then .nx else .ret (.bool false)) [some (.tuple [.tuple ps, w]), y1, none] := by
        simp only [dFor, iSq, gSq, fnD, dSeq, dSet, dRet, dRetS, dRetN, dCall, dCallB, dCallO, dCons, dNil, dVar, dSlot, dC, dOp, dIf, dIfS, dNx, dTest, dNotT, dAndT, dOrT, dAnd, dOr, dNot, dNeg, dTup, dLst, dPar, dAsg, dSetIx, dApp, dLenS, dIxS, atL, res, resA, lift, wb, R.bind, R.bind_ok, R.bind_exc, tN, tNil', tCons', tTup', tSq', gSqL, gSqT, gAddI, gSubI, gMulI, gDivI, gModI, gAbs, gInt, gLen, gMax, gMin, gGt, gLt, gGe, gLe, List.map_cons, List.map_nil, List.length_cons, List.length_nil, List.replicate_succ, List.replicate_zero, List.cons_append, List.nil_append, List.append_nil, List.getElem?_cons_zero, List.getElem?_cons_succ, List.getElem?_nil, List.set_cons_zero, List.set_cons_succ, Option.join_some, Option.join_none, Option.bind_some, Option.bind_none, Nat.zero_add, Nat.reduceAdd, Nat.reduceSub, Nat.sub_zero, if_true, Bool.false_eq_true, if_false, ite_true, ite_false, gSet0, gSet1, gSet2, gIx0, gIx1, gIx2, gIxL0, gIxL1, gIxL2, gCmp, decide_true, decide_false, Bool.not_true, Bool.not_false, Option.map_some, liftL, iVal, iArg, e]
      refine fn1 (N := 3) (r := [some (.tuple [.tuple ps, w]), y1, none]) ((dseq_nx (ifs_f g)).trans ((dseq_nx (ifs_f gw)).trans ?_))
      cases ha : ps.all isPaneB with
      | true =>
        rw [ha] at fo
        exact (dseq_nx fo).trans rfl
      | false =>
        rw [ha] at fo
        exact dseq_ret fo
theorem fn3 {N : Nat} {den : Den Fl} {a d e v a' : D} {r : Rho} (h : den ([some a, some d, some e] ++ List.replicate (N - 3) none) = .ok (.ret v) (some a' :: r)) : fnD N [0] den [a, d, e] = .ok v [some a'] := by
  unfold fnD
  show (match den ([some a, some d, some e] ++ List.replicate (N - 3) none) with | .ok .nx r => R.ok PyData.none [(r[0]?).join] | .ok (.ret d) r => .ok d [(r[0]?).join] | .exc c es r => .exc c es [(r[0]?).join] | .stuck => .stuck) = _
  rw [h]
  rfl
def ONES : List D := [.tuple [.int 1, .int 1], .tuple [.int (-1), .int 1], .tuple [.int 2, .int 4], .tuple [.int 1, .int 0], .tuple [.int 1, .int (-2)], .list [.int 1, .int 2], .tuple [.bool true, .int 2], .tuple [.int 0, .int 2], .int 0, .none, .tuple [.int 1, .int 2, .int 3]]
theorem ones_th : ∀ d ∈ ONES, Th 4 1 30 d := th_all (by decide +kernel)
theorem ones_no : ∀ d ∈ ONES, isPaneB d = false := fun d hd => by
  have h : ONES.all (fun d => !isPaneB d) = true := by decide +kernel
  have := List.all_eq_true.mp h d hd
  simpa using this
theorem th_row_eq {ps : List Rat} {w : Int} : PyData.tuple [.tuple (ps.map fr), .int w] = rowD ps w := rfl
section
variable {B a : Nat} {bx : D} {ps : List Rat} {w : Int}
theorem sl_to : gSl none (some (a : Int)) (.tuple (ps.map fr)) = some (.tuple ((ps.take a).map fr)) := by show some (PyData.tuple (cut (ps.map fr) none (some (a : Int)))) = _; rw [cut_to, List.map_take]
theorem sl_fr : gSl (some (a : Int)) none (.tuple (ps.map fr)) = some (.tuple ((ps.drop a).map fr)) := by show some (PyData.tuple (cut (ps.map fr) (some (a : Int)) none)) = _; rw [cut_from, List.map_drop]
theorem sl_fr1 : gSl (some ((a : Int) + 1)) none (.tuple (ps.map fr)) = some (.tuple ((ps.drop (a + 1)).map fr)) := by
  rw [show (a : Int) + 1 = ((a + 1 : Nat) : Int) by omega]
  exact sl_fr
def OD1 (ps : List Rat) (w : Int) (a : Nat) (one : D) : List D := [.tuple [.tuple ((ps.take a).map fr ++ [one] ++ (ps.drop a).map fr), .int w], .tuple [.list (ps.map fr), .int w], .list [.tuple (ps.map fr), .int w], .tuple [.tuple (ps.map fr)], .tuple (ps.map fr), .tuple [.tuple (ps.map fr), .int 2]]
def OD2 (ps : List Rat) (w : Int) : List D := [.tuple [.tuple (ps.map fr), .none], .tuple [.tuple (ps.map fr), .bool (decide (w = 1))], .tuple [.tuple (ps.map fr), .tuple [.int w, .int 1]], .tuple [.tuple (ps.map fr), .int w, .int 0], .none, .str "", .tuple [], .list []]
def OD3 (ps : List Rat) (w : Int) : List D := [.tuple [.int w, .tuple (ps.map fr)]]
theorem th_int6 (hw : w = 0 ∨ w = 1 ∨ w = -1) : Th 6 1 13 (.int w) := (th_int (i := w) (b := 6) (by rcases hw with rfl | rfl | rfl <;> decide) (by decide)).le (Nat.le_refl _) (by decide) (Nat.le_refl _)
theorem th_frs (hp : ∀ p ∈ ps, Pane p) (hl : ps.length ≤ 30) : Th 6 2 900 (.tuple (ps.map fr)) ∧ Th 6 2 900 (.list (ps.map fr)) := by
  have wt := wt_frs hp
  have e : ∀ d ∈ ps.map fr, Th 6 1 28 d := fun d hd => by
    obtain ⟨p, hpm, rfl⟩ := List.mem_map.mp hd
    exact th_fr (hp p hpm).sm
  have dA : PyData.depthAll (ps.map fr) ≤ 1 := dpA.mpr fun d hd => (e d hd).dp
  exact ⟨⟨thT_tup.mpr fun d hd => (e d hd).ok, by simp only [PyData.depth]; omega, by simp only [PyData.weight]; omega⟩, ⟨thT_lst.mpr fun d hd => (e d hd).ok, by simp only [PyData.depth]; omega, by simp only [PyData.weight]; omega⟩⟩
theorem od_ok (hp : ∀ p ∈ ps, Pane p) (hw : w = 0 ∨ w = 1 ∨ w = -1) (hl : ps.length ≤ 20) {one : D} (ho : one ∈ ONES) {d : D} (hd : d ∈ OD1 ps w a one ++ OD2 ps w ++ OD3 ps w) : Th 13 9 20000 d ∧ isRowB d = false := by
  obtain ⟨hT, hL⟩ := th_frs hp (by omega)
  have hI := th_int6 hw
  have z0 : Th 6 1 13 (.int 0) := th_of (by decide +kernel)
  have two : ∀ {x y : D} {k n : Nat}, Th 6 2 900 x → Th 6 k n y → k ≤ 2 → n ≤ 900 → Th 13 9 20000 (.tuple [x, y]) := fun h1 h2 h3 h4 => (Th.tup (b := 6) (k := 2) (n := 900) (m := 1802) (fun d hd => by
    simp only [List.mem_cons, List.not_mem_nil, or_false] at hd
    rcases hd with rfl | rfl
    · exact h1
    · exact h2.le (Nat.le_refl _) h3 h4) (by show 2 * 901 ≤ 1802; decide)).le (by decide) (by decide) (by decide)
  simp only [OD1, OD2, OD3, List.mem_append, List.mem_cons, List.not_mem_nil, or_false] at hd
  rcases hd with ((rfl | rfl | rfl | rfl | rfl | rfl) | (rfl | rfl | rfl | rfl | rfl | rfl | rfl | rfl)) | rfl
  · refine ⟨(th_row (b := 6) (k := 1) (m := 2000) (nw := 13) (fun d hd => ?_) ?_ ⟨hI.ok, Nat.le_trans hI.dp (by decide), hI.wt⟩).le (by decide) (by decide) (by decide), ?_⟩
    · have e : ∀ (qs : List Rat), (∀ p ∈ qs, Pane p) → ∀ d ∈ qs.map fr, thT 6 d = true ∧ PyData.depth d ≤ 1 := fun qs hq d hd => by
        obtain ⟨p, hpm, rfl⟩ := List.mem_map.mp hd
        exact ⟨(th_fr (hq p hpm).sm).ok, (th_fr (hq p hpm).sm).dp⟩
      rcases List.mem_append.mp hd with z | z
      · rcases List.mem_append.mp z with z | z
        · exact e _ (fun p hm => hp p (List.mem_of_mem_take hm)) d z
        · rw [List.mem_singleton.mp z]
          exact ⟨thT_mono (by decide) (ones_th one ho).ok, (ones_th one ho).dp⟩
      · exact e _ (fun p hm => hp p (List.mem_of_mem_drop hm)) d z
    · rw [wtA_app, wtA_app]
      have w1 := wt_frs (ps := ps.take a) (fun p hm => hp p (List.mem_of_mem_take hm))
      have w2 := wt_frs (ps := ps.drop a) (fun p hm => hp p (List.mem_of_mem_drop hm))
      have w3 := (ones_th one ho).wt
      rw [List.length_take] at w1
      rw [List.length_drop] at w2
      simp only [PyData.weightAll]
      omega
    · show (((ps.take a).map fr ++ [one] ++ (ps.drop a).map fr).all isPaneB && _) = false
      rw [List.all_append, List.all_append, List.all_cons, ones_no one ho]
      simp
  · exact ⟨two hL hI (by decide) (by decide), rfl⟩
  · refine ⟨(Th.lst (b := 6) (k := 2) (n := 900) (m := 1802) (fun d hd => by
      simp only [List.mem_cons, List.not_mem_nil, or_false] at hd
      rcases hd with rfl | rfl
      · exact hT
      · exact hI.le (Nat.le_refl _) (by decide) (by decide)) (by show 2 * 901 ≤ 1802; decide)).le (by decide) (by decide) (by decide), rfl⟩
  · refine ⟨(Th.tup (b := 6) (k := 2) (n := 900) (m := 901) (fun d hd => by
      rw [List.mem_singleton.mp hd]; exact hT) (by show 1 * 901 ≤ 901; decide)).le (by decide) (by decide) (by decide), rfl⟩
  · refine ⟨hT.le (by decide) (by decide) (by decide), ?_⟩
    match ps with
    | [] => rfl
    | [_] => rfl
    | [p, q] => rfl
    | _ :: _ :: _ :: _ => rfl
  · refine ⟨two hT (th_of (b := 6) (k := 1) (n := 13) (d := .int 2) (by decide +kernel)) (by decide) (by decide), ?_⟩
    show (_ && false) = false
    rw [Bool.and_false]
  · refine ⟨two hT (th_of (b := 6) (k := 1) (n := 13) (d := .none) (by decide +kernel)) (by decide) (by decide), ?_⟩
    show (_ && false) = false
    rw [Bool.and_false]
  · refine ⟨two hT (y := .bool (decide (w = 1))) (k := 1) (n := 13) (by cases decide (w = 1) <;> exact th_of (by decide +kernel)) (by decide) (by decide), ?_⟩
    show (_ && false) = false
    rw [Bool.and_false]
  · refine ⟨two hT (y := .tuple [.int w, .int 1]) (k := 2) (n := 28) (Th.tup (b := 6) (k := 1) (n := 13) (fun d hd => by
      simp only [List.mem_cons, List.not_mem_nil, or_false] at hd
      rcases hd with rfl | rfl
      · exact hI
      · exact th_of (by decide +kernel)) (Nat.le_of_ble_eq_true rfl)) (by decide) (by decide), ?_⟩
    show (_ && false) = false
    rw [Bool.and_false]
  · refine ⟨(Th.tup (b := 6) (k := 2) (n := 900) (m := 2703) (fun d hd => by
      simp only [List.mem_cons, List.not_mem_nil, or_false] at hd
      rcases hd with rfl | rfl | rfl
      · exact hT
      · exact hI.le (Nat.le_refl _) (by decide) (by decide)
      · exact z0.le (Nat.le_refl _) (by decide) (by decide)) (by show 3 * 901 ≤ 2703; decide)).le (by decide) (by decide) (by decide), rfl⟩
  · exact ⟨th_of (by decide +kernel), rfl⟩
  · exact ⟨th_of (by decide +kernel), rfl⟩
  · exact ⟨th_of (by decide +kernel), rfl⟩
  · exact ⟨th_of (by decide +kernel), rfl⟩
  · refine ⟨(Th.tup (b := 6) (k := 2) (n := 900) (m := 1802) (fun d hd => by
      simp only [List.mem_cons, List.not_mem_nil, or_false] at hd
      rcases hd with rfl | rfl
      · exact hI.le (Nat.le_refl _) (by decide) (by decide)
      · exact hT) (by show 2 * 901 ≤ 1802; decide)).le (by decide) (by decide) (by decide), rfl⟩
theorem sem_odd25 (hp : ∀ p ∈ ps, Pane p) (hw : w = 0 ∨ w = 1 ∨ w = -1) (hl : ps.length ≤ 20) (hb : Box B bx) (hB : B ≤ 90000) : ∃ d bx', fn_law_odd [bx, rowD ps w, .int (a : Int)] = .ok d [some bx'] ∧ (Th 13 9 20000 d ∧ isRowB d = false) ∧ Box (B + 2) bx' := by
  have lm : lim = 1000000 := rfl
  obtain ⟨one, ho, b1, e1, h1⟩ := sem_of (l := ONES) hb (by decide) (by decide) (by omega)
  have hml : (OD1 ps w a one ++ OD2 ps w ++ OD3 ps w).length = 15 := rfl
  obtain ⟨d, hd, b2, e2, h2⟩ := sem_of (l := OD1 ps w a one ++ OD2 ps w ++ OD3 ps w) h1 (by rw [hml]; decide) (by rw [hml]; decide) (by omega)
  refine ⟨d, b2, ?_, od_ok hp hw hl ho hd, h2⟩
  have e1 : fn_law_of [bx, .list [.tuple [.int 1, .int 1], .tuple [.int (-1), .int 1], .tuple [.int 2, .int 4], .tuple [.int 1, .int 0], .tuple [.int 1, .int (-2)], .list [.int 1, .int 2], .tuple [.bool true, .int 2], .tuple [.int 0, .int 2], .int 0, .none, .tuple [.int 1, .int 2, .int 3]]] = .ok one [some b1] := e1
  have s1 := sl_to (a := a) (ps := ps)
  have s2 := sl_fr (a := a) (ps := ps)
  have g1 : gAdd (.tuple ((ps.take a).map fr)) (.tuple [one]) = some (.tuple ((ps.take a).map fr ++ [one])) := gAddT (by simp; omega)
  have g2 : gAdd (.tuple ((ps.take a).map fr ++ [one])) (.tuple ((ps.drop a).map fr)) = some (.tuple ((ps.take a).map fr ++ [one] ++ (ps.drop a).map fr)) := gAddT (by simp; omega)
  have ge : gEq (.int w) (.int 1) = some (.bool (decide (w = 1))) := eq_ints _ 1
  have gs : Option.map PyData.list (gSeq [.tuple (ps.map fr)]) = some (.list (ps.map fr)) := rfl
  have l1 : (PyData.list [.tuple [.tuple ((ps.take a).map fr ++ [one] ++ (ps.drop a).map fr), .int w], .tuple [.list (ps.map fr), .int w], .list [.tuple (ps.map fr), .int w], .tuple [.tuple (ps.map fr)], .tuple (ps.map fr), .tuple [.tuple (ps.map fr), .int 2]]) = .list (OD1 ps w a one) := rfl
  have l2 : (PyData.list [.tuple [.tuple (ps.map fr), .none], .tuple [.tuple (ps.map fr), .bool (decide (w = 1))], .tuple [.tuple (ps.map fr), .tuple [.int w, .int 1]], .tuple [.tuple (ps.map fr), .int w, .int 0], .none, .str "", .tuple [], .list []]) = .list (OD2 ps w) := rfl
  have l3 : (PyData.list [.tuple [.int w, .tuple (ps.map fr)]]) = .list (OD3 ps w) := rfl
  have a1 : gAdd (.list (OD1 ps w a one)) (.list (OD2 ps w)) = some (.list (OD1 ps w a one ++ OD2 ps w)) := gAddL (by show 6 + 8 ≤ lim; omega)
  have a2 : gAdd (.list (OD1 ps w a one ++ OD2 ps w)) (.list (OD3 ps w)) = some (.list (OD1 ps w a one ++ OD2 ps w ++ OD3 ps w)) := gAddL (by show 14 + 1 ≤ lim; omega)
  have asg : (dAsg (tSq' 2 (tCons' (tN 3) (tCons' (tN 4) tNil'))) (dVar 1)) ([some bx, some (rowD ps w), some (.int (a : Int))] ++ List.replicate 4 none) = .ok .nx [some bx, some (rowD ps w), some (.int (a : Int)), some (.tuple (ps.map fr)), some (.int w), none, none] := rfl
  refine fn3 (N := 7) (r := [some (rowD ps w), some (.int (a : Int)), some (.tuple (ps.map fr)), some (.int w), some one, some (.list (OD1 ps w a one ++ OD2 ps w))]) ((dseq_nx asg).trans ?_)
  generalize rowD ps w = RW at *
  generalize OD1 ps w a one ++ OD2 ps w ++ OD3 ps w = Z3 at *
  generalize OD1 ps w a one ++ OD2 ps w = Z2 at *
  generalize OD1 ps w a one = Z1 at *
  generalize OD2 ps w = Y2 at *
  generalize OD3 ps w = Y3 at *
  generalize (ps.take a).map fr ++ [one] ++ (ps.drop a).map fr = X3 at *
  generalize (ps.take a).map fr ++ [one] = X2 at *
  generalize (ps.take a).map fr = X1 at *
  generalize (ps.drop a).map fr = X4 at *
  generalize ps.map fr = PS' at *
  simp only [dSl, dPart, dNoPart, fnD, dSeq, dSet, dRet, dRetS, dRetN, dCall, dCallB, dCallO, dCons, dNil, dVar, dSlot, dC, dOp, dIf, dIfS, dNx, dTest, dNotT, dAndT, dOrT, dAnd, dOr, dNot, dNeg, dTup, dLst, dPar, dAsg, dSetIx, dApp, dLenS, dIxS, atL, res, resA, lift, wb, R.bind, R.bind_ok, R.bind_exc, tN, tNil', tCons', tTup', tSq', gSqL, gSqT, gAddI, gSubI, gMulI, gDivI, gModI, gAbs, gInt, gLen, gMax, gMin, gGt, gLt, gGe, gLe, List.map_cons, List.map_nil, List.length_cons, List.length_nil, List.replicate_succ, List.replicate_zero, List.cons_append, List.nil_append, List.append_nil, List.getElem?_cons_zero, List.getElem?_cons_succ, List.getElem?_nil, List.set_cons_zero, List.set_cons_succ, Option.join_some, Option.join_none, Option.bind_some, Option.bind_none, Nat.zero_add, Nat.reduceAdd, Nat.reduceSub, Nat.sub_zero, if_true, Bool.false_eq_true, if_false, ite_true, ite_false, gSet0, gSet1, gSet2, gIx0, gIx1, gIx2, gIxL0, gIxL1, gIxL2, gCmp, decide_true, decide_false, Bool.not_true, Bool.not_false, Option.map_some, liftL, iVal, iArg, e1, s1, s2, g1, g2, gs, ge, l1, l2, l3, a1, a2, e2]
def NR (ps : List Rat) (w : Int) (a : Nat) (p q : Rat) : List (List Rat × Int) := [(ps, w), (ps ++ [p], w), (ps ++ [0, 0], w), (ps, 0), (ps, 1), (ps, -1), (ps.take a ++ [q] ++ ps.drop (a + 1), w), (ps.take a ++ ps.drop (a + 1), w)]
theorem sem_near25 (hp : ∀ p ∈ ps, Pane p) (hw : w = 0 ∨ w = 1 ∨ w = -1) (hl : ps.length ≤ 20) (hb : Box B bx) (hB : B ≤ 90000) : ∃ qs v bx', fn_law_near [bx, rowD ps w, .int (a : Int)] = .ok (rowD qs v) [some bx'] ∧ (∀ p ∈ qs, Pane p) ∧ (v = 0 ∨ v = 1 ∨ v = -1) ∧ qs.length ≤ ps.length + 2 ∧ Box (B + 10) bx' := by
  have lm : lim = 1000000 := rfl
  obtain ⟨p, b1, e1, hp1, h1⟩ := sem_pane_v2 hb (by omega)
  obtain ⟨q, b2, e2, hq1, h2⟩ := sem_pane_v2 h1 (by omega)
  have hml : ((NR ps w a p q).map fun x => rowD x.1 x.2).length = 8 := rfl
  obtain ⟨d, hd, b3, e3, h3⟩ := sem_of (l := (NR ps w a p q).map fun x => rowD x.1 x.2) h2 (by rw [hml]; decide) (by rw [hml]; decide) (by omega)
  have pane0 : Pane 0 := ⟨by decide, by decide, ⟨by decide, by decide⟩⟩
  obtain ⟨⟨qs, v⟩, hm, rfl⟩ := List.mem_map.mp hd
  have ok : (∀ p ∈ qs, Pane p) ∧ (v = 0 ∨ v = 1 ∨ v = -1) ∧ qs.length ≤ ps.length + 2 := by
    simp only [NR, List.mem_cons, List.not_mem_nil, or_false, Prod.mk.injEq] at hm
    have tk : ∀ x ∈ ps.take a, Pane x := fun x hx => hp x (List.mem_of_mem_take hx)
    have dr : ∀ x ∈ ps.drop (a + 1), Pane x := fun x hx => hp x (List.mem_of_mem_drop hx)
    rcases hm with ⟨rfl, rfl⟩ | ⟨rfl, rfl⟩ | ⟨rfl, rfl⟩ | ⟨rfl, rfl⟩ | ⟨rfl, rfl⟩ | ⟨rfl, rfl⟩ | ⟨rfl, rfl⟩ | ⟨rfl, rfl⟩
    · exact ⟨hp, hw, by omega⟩
    · refine ⟨fun x hx => ?_, hw, by simp⟩
      rcases List.mem_append.mp hx with z | z
      · exact hp x z
      · rw [List.mem_singleton.mp z]; exact hp1
    · refine ⟨fun x hx => ?_, hw, by simp⟩
      rcases List.mem_append.mp hx with z | z
      · exact hp x z
      · simp only [List.mem_cons, List.not_mem_nil, or_false] at z
        rcases z with rfl | rfl <;> exact pane0
    · exact ⟨hp, .inl rfl, by omega⟩
    · exact ⟨hp, .inr (.inl rfl), by omega⟩
    · exact ⟨hp, .inr (.inr rfl), by omega⟩
    · refine ⟨fun x hx => ?_, hw, by simp; omega⟩
      rcases List.mem_append.mp hx with z | z
      · rcases List.mem_append.mp z with z | z
        · exact tk x z
        · rw [List.mem_singleton.mp z]; exact hq1
      · exact dr x z
    · refine ⟨fun x hx => ?_, hw, by simp; omega⟩
      rcases List.mem_append.mp hx with z | z
      · exact tk x z
      · exact dr x z
  refine ⟨qs, v, b3, ?_, ok.1, ok.2.1, ok.2.2, h3.mono (by omega)⟩
  have s1 := sl_to (a := a) (ps := ps)
  have s2 := sl_fr1 (a := a) (ps := ps)
  have f0 : PyData.tuple [.int 0, .int 1] = fr 0 := rfl
  have g0 : gMulT (.tuple [.tuple [.int 0, .int 1]]) (.int 2) = some (.tuple [fr 0, fr 0]) := rfl
  have g1 : gAdd (.tuple (ps.map fr)) (.tuple [fr p]) = some (.tuple ((ps ++ [p]).map fr)) := by rw [gAddT (by simp; omega), List.map_append]; rfl
  have g2 : gAdd (.tuple (ps.map fr)) (.tuple [fr 0, fr 0]) = some (.tuple ((ps ++ [0, 0]).map fr)) := by rw [gAddT (by simp; omega), List.map_append]; rfl
  have g3 : gAdd (.tuple ((ps.take a).map fr)) (.tuple [fr q]) = some (.tuple ((ps.take a ++ [q]).map fr)) := by rw [gAddT (by simp; omega), List.map_append]; rfl
  have g4 : gAdd (.tuple ((ps.take a ++ [q]).map fr)) (.tuple ((ps.drop (a + 1)).map fr)) = some (.tuple ((ps.take a ++ [q] ++ ps.drop (a + 1)).map fr)) := by rw [gAddT (by simp; omega), ← List.map_append]
  have g5 : gAdd (.tuple ((ps.take a).map fr)) (.tuple ((ps.drop (a + 1)).map fr)) = some (.tuple ((ps.take a ++ ps.drop (a + 1)).map fr)) := by rw [gAddT (by simp; omega), ← List.map_append]
  have l1 : (PyData.list [rowD ps w, .tuple [.tuple ((ps ++ [p]).map fr), .int w], .tuple [.tuple ((ps ++ [0, 0]).map fr), .int w], .tuple [.tuple (ps.map fr), .int 0], .tuple [.tuple (ps.map fr), .int 1], .tuple [.tuple (ps.map fr), .int (-1)]]) = .list (((NR ps w a p q).take 6).map fun x => rowD x.1 x.2) := rfl
  have l2 : (PyData.list [.tuple [.tuple ((ps.take a ++ [q] ++ ps.drop (a + 1)).map fr), .int w], .tuple [.tuple ((ps.take a ++ ps.drop (a + 1)).map fr), .int w]]) = .list (((NR ps w a p q).drop 6).map fun x => rowD x.1 x.2) := rfl
  have a1 : gAdd (.list (((NR ps w a p q).take 6).map fun x => rowD x.1 x.2)) (.list (((NR ps w a p q).drop 6).map fun x => rowD x.1 x.2)) = some (.list ((NR ps w a p q).map fun x => rowD x.1 x.2)) := gAddL (by show 6 + 2 ≤ lim; omega)
  have asg : (dAsg (tSq' 2 (tCons' (tN 3) (tCons' (tN 4) tNil'))) (dVar 1)) ([some bx, some (rowD ps w), some (.int (a : Int))] ++ List.replicate 3 none) = .ok .nx [some bx, some (rowD ps w), some (.int (a : Int)), some (.tuple (ps.map fr)), some (.int w), none] := rfl
  refine fn3 (N := 6) (r := [some (rowD ps w), some (.int (a : Int)), some (.tuple (ps.map fr)), some (.int w), some (.list ((NR ps w a p q).map fun x => rowD x.1 x.2))]) ((dseq_nx asg).trans ?_)
  generalize hR : rowD ps w = RW at *
  generalize (NR ps w a p q).map (fun x => rowD x.1 x.2) = Z3 at *
  generalize ((NR ps w a p q).take 6).map (fun x => rowD x.1 x.2) = Z1 at *
  generalize ((NR ps w a p q).drop 6).map (fun x => rowD x.1 x.2) = Z2 at *
  generalize (ps.take a ++ [q] ++ ps.drop (a + 1)).map fr = X5 at *
  generalize (ps.take a ++ ps.drop (a + 1)).map fr = X6 at *
  generalize (ps.take a ++ [q]).map fr = X4 at *
  generalize (ps.take a).map fr = X1 at *
  generalize (ps.drop (a + 1)).map fr = X2 at *
  generalize (ps ++ [p]).map fr = Y1 at *
  generalize (ps ++ [0, 0]).map fr = Y2 at *
  generalize ps.map fr = PS' at *
  simp only [dSl, dPart, dNoPart, fnD, dSeq, dSet, dRet, dRetS, dRetN, dCall, dCallB, dCallO, dCons, dNil, dVar, dSlot, dC, dOp, dIf, dIfS, dNx, dTest, dNotT, dAndT, dOrT, dAnd, dOr, dNot, dNeg, dTup, dLst, dPar, dAsg, dSetIx, dApp, dLenS, dIxS, atL, res, resA, lift, wb, R.bind, R.bind_ok, R.bind_exc, tN, tNil', tCons', tTup', tSq', gSqL, gSqT, gAddI, gSubI, gMulI, gDivI, gModI, gAbs, gInt, gLen, gMax, gMin, gGt, gLt, gGe, gLe, List.map_cons, List.map_nil, List.length_cons, List.length_nil, List.replicate_succ, List.replicate_zero, List.cons_append, List.nil_append, List.append_nil, List.getElem?_cons_zero, List.getElem?_cons_succ, List.getElem?_nil, List.set_cons_zero, List.set_cons_succ, Option.join_some, Option.join_none, Option.bind_some, Option.bind_none, Nat.zero_add, Nat.reduceAdd, Nat.reduceSub, Nat.sub_zero, if_true, Bool.false_eq_true, if_false, ite_true, ite_false, gSet0, gSet1, gSet2, gIx0, gIx1, gIx2, gIxL0, gIxL1, gIxL2, gCmp, decide_true, decide_false, Bool.not_true, Bool.not_false, Option.map_some, liftL, iVal, iArg, e1, e2, s1, s2, g0, g1, g2, g3, g4, g5, l1, l2, a1, e3]
end
def AskOk (d : D) : Prop := Th 13 9 20000 d ∧ (isRowB d = false ∨ ∃ qs v, d = rowD qs v ∧ (∀ p ∈ qs, Pane p) ∧ (v = 0 ∨ v = 1 ∨ v = -1) ∧ qs.length ≤ 7)
section
variable {B : Nat} {bx d : D} {nl : List Rat}
theorem shows25 (h : AskOk d) (hn : nl.length ≤ 8) : ∃ rb : Bool, fn_shows_row [.list (nl.map fr), d] = .ok (.bool rb) [] ∧ fn_shows_row [.tuple (nl.map fr), d] = .ok (.bool rb) [] ∧
    (∀ {x0 x1 x2 x4 x5 x6 x7 x9 x10 : Option D}, (dSet 10 (dAnd (dCall [] [none] [] [] fn_law_is_row (dCons (dVar 8) dNil)) (dOp none none gEq (dCall [] [none, none] [] [] fn_law_echo (dCons (dVar 8) (dCons (dCallB [none] gLen (dCons (dVar 3) dNil)) dNil))) (dVar 3)))) [x0, x1, x2, some (.list (nl.map fr)), x4, x5, x6, x7, some d, x9, x10] = .ok .nx [x0, x1, x2, some (.list (nl.map fr)), x4, x5, x6, x7, some d, x9, some (.bool rb)]) := by
  obtain ⟨hT, hr⟩ := h
  have f1 := sem_rowB hT (by decide)
  have f2 := sem_lrow25 hT
  rcases hr with h0 | ⟨qs, v, rfl, hq, hv, hl⟩
  · rw [h0] at f1 f2
    refine ⟨false, ?_, ?_, fun {x0 x1 x2 x4 x5 x6 x7 x9 x10} => ?_⟩
    · generalize nl.map fr = NL
      simp only [fn_shows_row, den_shows_row, fnD, dSeq, dSet, dRet, dRetS, dRetN, dCall, dCallB, dCallO, dCons, dNil, dVar, dSlot, dC, dOp, dIf, dIfS, dNx, dTest, dNotT, dAndT, dOrT, dAnd, dOr, dNot, dNeg, dTup, dLst, dPar, dAsg, dSetIx, dApp, dLenS, dIxS, atL, res, resA, lift, wb, R.bind, R.bind_ok, R.bind_exc, tN, tNil', tCons', tTup', tSq', gSqL, gSqT, gAddI, gSubI, gMulI, gDivI, gModI, gAbs, gInt, gLen, gMax, gMin, gGt, gLt, gGe, gLe, List.map_cons, List.map_nil, List.length_cons, List.length_nil, List.replicate_succ, List.replicate_zero, List.cons_append, List.nil_append, List.append_nil, List.getElem?_cons_zero, List.getElem?_cons_succ, List.getElem?_nil, List.set_cons_zero, List.set_cons_succ, Option.join_some, Option.join_none, Option.bind_some, Option.bind_none, Nat.zero_add, Nat.reduceAdd, Nat.reduceSub, Nat.sub_zero, if_true, Bool.false_eq_true, if_false, ite_true, ite_false, gSet0, gSet1, gSet2, gIx0, gIx1, gIx2, gIxL0, gIxL1, gIxL2, gCmp, decide_true, decide_false, Bool.not_true, Bool.not_false, Option.map_some, liftL, iVal, iArg, f1]
    · generalize nl.map fr = NL
      simp only [fn_shows_row, den_shows_row, fnD, dSeq, dSet, dRet, dRetS, dRetN, dCall, dCallB, dCallO, dCons, dNil, dVar, dSlot, dC, dOp, dIf, dIfS, dNx, dTest, dNotT, dAndT, dOrT, dAnd, dOr, dNot, dNeg, dTup, dLst, dPar, dAsg, dSetIx, dApp, dLenS, dIxS, atL, res, resA, lift, wb, R.bind, R.bind_ok, R.bind_exc, tN, tNil', tCons', tTup', tSq', gSqL, gSqT, gAddI, gSubI, gMulI, gDivI, gModI, gAbs, gInt, gLen, gMax, gMin, gGt, gLt, gGe, gLe, List.map_cons, List.map_nil, List.length_cons, List.length_nil, List.replicate_succ, List.replicate_zero, List.cons_append, List.nil_append, List.append_nil, List.getElem?_cons_zero, List.getElem?_cons_succ, List.getElem?_nil, List.set_cons_zero, List.set_cons_succ, Option.join_some, Option.join_none, Option.bind_some, Option.bind_none, Nat.zero_add, Nat.reduceAdd, Nat.reduceSub, Nat.sub_zero, if_true, Bool.false_eq_true, if_false, ite_true, ite_false, gSet0, gSet1, gSet2, gIx0, gIx1, gIx2, gIxL0, gIxL1, gIxL2, gCmp, decide_true, decide_false, Bool.not_true, Bool.not_false, Option.map_some, liftL, iVal, iArg, f1]
    · generalize nl.map fr = NL
      simp only [fnD, dSeq, dSet, dRet, dRetS, dRetN, dCall, dCallB, dCallO, dCons, dNil, dVar, dSlot, dC, dOp, dIf, dIfS, dNx, dTest, dNotT, dAndT, dOrT, dAnd, dOr, dNot, dNeg, dTup, dLst, dPar, dAsg, dSetIx, dApp, dLenS, dIxS, atL, res, resA, lift, wb, R.bind, R.bind_ok, R.bind_exc, tN, tNil', tCons', tTup', tSq', gSqL, gSqT, gAddI, gSubI, gMulI, gDivI, gModI, gAbs, gInt, gLen, gMax, gMin, gGt, gLt, gGe, gLe, List.map_cons, List.map_nil, List.length_cons, List.length_nil, List.replicate_succ, List.replicate_zero, List.cons_append, List.nil_append, List.append_nil, List.getElem?_cons_zero, List.getElem?_cons_succ, List.getElem?_nil, List.set_cons_zero, List.set_cons_succ, Option.join_some, Option.join_none, Option.bind_some, Option.bind_none, Nat.zero_add, Nat.reduceAdd, Nat.reduceSub, Nat.sub_zero, if_true, Bool.false_eq_true, if_false, ite_true, ite_false, gSet0, gSet1, gSet2, gIx0, gIx1, gIx2, gIxL0, gIxL1, gIxL2, gCmp, decide_true, decide_false, Bool.not_true, Bool.not_false, Option.map_some, liftL, iVal, iArg, f2]
  · rw [isRow_D hq hv] at f1 f2
    have e1 := sem_echo bot63' (many := nl.length) hv (fun p hp => (hq p hp).lw) (by omega) (by
      have h1 : 90 * (2 * nl.length - 1) ≤ 90 * 15 := Nat.mul_le_mul_left _ (by omega)
      have h2 : (2 * qs.length + 3) * nl.length ≤ 17 * 8 := Nat.mul_le_mul (by omega) hn
      omega) (by decide)
    have e2 := sem_law_echo bot63' (many := nl.length) hv (fun p hp => (hq p hp).lw) (by omega) (by omega) (by omega)
    have gl : gLen [.list (nl.map fr)] = some (.int (nl.length : Int)) := by show some (PyData.int ((nl.map fr).length : Int)) = _; rw [List.length_map]
    have gt : gLen [.tuple (nl.map fr)] = some (.int (nl.length : Int)) := by show some (PyData.int ((nl.map fr).length : Int)) = _; rw [List.length_map]
    have q1 : gEq (.list (pl (Ech (v : Rat) qs) nl.length)) (.list (nl.map fr)) = some (.bool (decide (tk nl.length (Ech (v : Rat) qs) = nl))) := by rw [pl_tk]; exact gEq_frs _ _
    have s1 : Option.map PyData.list (gSeq [.list (nl.map fr)]) = some (.list (nl.map fr)) := rfl
    have s2 : Option.map PyData.list (gSeq [.tuple (nl.map fr)]) = some (.list (nl.map fr)) := rfl
    simp only [gLen] at gl gt
    refine ⟨decide (tk nl.length (Ech (v : Rat) qs) = nl), ?_, ?_, fun {x0 x1 x2 x4 x5 x6 x7 x9 x10} => ?_⟩
    · generalize rowD qs v = RW at *
      generalize pl (Ech (v : Rat) qs) nl.length = PL at *
      generalize nl.map fr = NL at *
      simp only [fn_shows_row, den_shows_row, fnD, dSeq, dSet, dRet, dRetS, dRetN, dCall, dCallB, dCallO, dCons, dNil, dVar, dSlot, dC, dOp, dIf, dIfS, dNx, dTest, dNotT, dAndT, dOrT, dAnd, dOr, dNot, dNeg, dTup, dLst, dPar, dAsg, dSetIx, dApp, dLenS, dIxS, atL, res, resA, lift, wb, R.bind, R.bind_ok, R.bind_exc, tN, tNil', tCons', tTup', tSq', gSqL, gSqT, gAddI, gSubI, gMulI, gDivI, gModI, gAbs, gInt, gLen, gMax, gMin, gGt, gLt, gGe, gLe, List.map_cons, List.map_nil, List.length_cons, List.length_nil, List.replicate_succ, List.replicate_zero, List.cons_append, List.nil_append, List.append_nil, List.getElem?_cons_zero, List.getElem?_cons_succ, List.getElem?_nil, List.set_cons_zero, List.set_cons_succ, Option.join_some, Option.join_none, Option.bind_some, Option.bind_none, Nat.zero_add, Nat.reduceAdd, Nat.reduceSub, Nat.sub_zero, if_true, Bool.false_eq_true, if_false, ite_true, ite_false, gSet0, gSet1, gSet2, gIx0, gIx1, gIx2, gIxL0, gIxL1, gIxL2, gCmp, decide_true, decide_false, Bool.not_true, Bool.not_false, Option.map_some, liftL, iVal, iArg, f1, gl, e1, s1, q1]
    · generalize rowD qs v = RW at *
      generalize pl (Ech (v : Rat) qs) nl.length = PL at *
      generalize nl.map fr = NL at *
      simp only [fn_shows_row, den_shows_row, fnD, dSeq, dSet, dRet, dRetS, dRetN, dCall, dCallB, dCallO, dCons, dNil, dVar, dSlot, dC, dOp, dIf, dIfS, dNx, dTest, dNotT, dAndT, dOrT, dAnd, dOr, dNot, dNeg, dTup, dLst, dPar, dAsg, dSetIx, dApp, dLenS, dIxS, atL, res, resA, lift, wb, R.bind, R.bind_ok, R.bind_exc, tN, tNil', tCons', tTup', tSq', gSqL, gSqT, gAddI, gSubI, gMulI, gDivI, gModI, gAbs, gInt, gLen, gMax, gMin, gGt, gLt, gGe, gLe, List.map_cons, List.map_nil, List.length_cons, List.length_nil, List.replicate_succ, List.replicate_zero, List.cons_append, List.nil_append, List.append_nil, List.getElem?_cons_zero, List.getElem?_cons_succ, List.getElem?_nil, List.set_cons_zero, List.set_cons_succ, Option.join_some, Option.join_none, Option.bind_some, Option.bind_none, Nat.zero_add, Nat.reduceAdd, Nat.reduceSub, Nat.sub_zero, if_true, Bool.false_eq_true, if_false, ite_true, ite_false, gSet0, gSet1, gSet2, gIx0, gIx1, gIx2, gIxL0, gIxL1, gIxL2, gCmp, decide_true, decide_false, Bool.not_true, Bool.not_false, Option.map_some, liftL, iVal, iArg, f1, gt, e1, s2, q1]
    · generalize rowD qs v = RW at *
      generalize pl (Ech (v : Rat) qs) nl.length = PL at *
      generalize nl.map fr = NL at *
      simp only [fnD, dSeq, dSet, dRet, dRetS, dRetN, dCall, dCallB, dCallO, dCons, dNil, dVar, dSlot, dC, dOp, dIf, dIfS, dNx, dTest, dNotT, dAndT, dOrT, dAnd, dOr, dNot, dNeg, dTup, dLst, dPar, dAsg, dSetIx, dApp, dLenS, dIxS, atL, res, resA, lift, wb, R.bind, R.bind_ok, R.bind_exc, tN, tNil', tCons', tTup', tSq', gSqL, gSqT, gAddI, gSubI, gMulI, gDivI, gModI, gAbs, gInt, gLen, gMax, gMin, gGt, gLt, gGe, gLe, List.map_cons, List.map_nil, List.length_cons, List.length_nil, List.replicate_succ, List.replicate_zero, List.cons_append, List.nil_append, List.append_nil, List.getElem?_cons_zero, List.getElem?_cons_succ, List.getElem?_nil, List.set_cons_zero, List.set_cons_succ, Option.join_some, Option.join_none, Option.bind_some, Option.bind_none, Nat.zero_add, Nat.reduceAdd, Nat.reduceSub, Nat.sub_zero, if_true, Bool.false_eq_true, if_false, ite_true, ite_false, gSet0, gSet1, gSet2, gIx0, gIx1, gIx2, gIxL0, gIxL1, gIxL2, gCmp, decide_true, decide_false, Bool.not_true, Bool.not_false, Option.map_some, liftL, iVal, iArg, f2, gl, e2, q1]
theorem same_bl (b : Bool) : fn_law_same 10 [.bool b, .bool b] = .ok (.bool true) [] := sem_same (n := 9) (.bl _) (by omega)
theorem turn25 {ps : List Rat} {w : Int} {x2 x4 x5 x6 x7 x8 x9 x10 : Option D} (hp : ∀ p ∈ ps, Pane p) (hw : w = 0 ∨ w = 1 ∨ w = -1) (hl : ps.length ≤ 5) (hn : nl.length ≤ 8) (hb : Box B bx) (hB : B ≤ 60000) :
    ∃ bx' y6 y7 y8 y9 y10, den_law_right_v2_b0 [some bx, some (rowD ps w), x2, some (.list (nl.map fr)), x4, x5, x6, x7, x8, x9, x10] = .ok .nx [some bx', some (rowD ps w), x2, some (.list (nl.map fr)), x4, x5, y6, y7, y8, y9, y10] ∧ Box (B + 20) bx' := by
  have lm : lim = 1000000 := rfl
  obtain ⟨a, b1, e1, a1, c1, h1⟩ := sem_take (s := (ps.length : Int) + 1) hb (by omega) (bits_ok (by omega)) (by omega)
  obtain ⟨a, rfl⟩ : ∃ an : Nat, a = (an : Int) := ⟨a.toNat, by omega⟩
  obtain ⟨t, b2, e2, a2, c2, h2⟩ := sem_take (s := 2) h1 (by decide) (bits_ok (by decide)) (by omega)
  have i0 : gIx (rowD ps w) (.int 0) = some (.tuple (ps.map fr)) := rfl
  have gl : gLen [.tuple (ps.map fr)] = some (.int (ps.length : Int)) := by show some (PyData.int ((ps.map fr).length : Int)) = _; rw [List.length_map]
  simp only [gLen] at gl
  have ge : gEq (.int t) (.int 0) = some (.bool (decide (t = 0))) := eq_ints _ 0
  obtain ⟨d, b3, q2, hd, h3⟩ : ∃ d b3, (dSet 8 (dIf (dTest (dVar 7)) (dCall [0] [(some 0), none, none] [0] [] fn_law_near (dCons (dSlot 0) (dCons (dVar 1) (dCons (dVar 6) dNil)))) (dCall [0] [(some 0), none, none] [0] [] fn_law_odd (dCons (dSlot 0) (dCons (dVar 1) (dCons (dVar 6) dNil)))))) [some b2, some (rowD ps w), x2, some (.list (nl.map fr)), x4, x5, some (.int (a : Int)), some (.bool (decide (t = 0))), x8, x9, x10] = .ok .nx [some b3, some (rowD ps w), x2, some (.list (nl.map fr)), x4, x5, some (.int (a : Int)), some (.bool (decide (t = 0))), some d, x9, x10] ∧ AskOk d ∧ Box (B + 15) b3 := by
    cases hc : decide (t = 0) with
    | true =>
      obtain ⟨qs, v, b3, e3, hq, hv, hql, h3⟩ := sem_near25 (a := a) hp hw (by omega) h2 (by omega)
      refine ⟨rowD qs v, b3, ?_, ⟨(th_rowD hq (th_int6 hv) (m := 203) (by omega)).le (by decide) (by decide) (by decide), .inr ⟨qs, v, rfl, hq, hv, by omega⟩⟩, h3.mono (by omega)⟩
      generalize rowD qs v = R2 at *
      generalize rowD ps w = R1 at *
      generalize nl.map fr = NL at *
      simp only [fnD, dSeq, dSet, dRet, dRetS, dRetN, dCall, dCallB, dCallO, dCons, dNil, dVar, dSlot, dC, dOp, dIf, dIfS, dNx, dTest, dNotT, dAndT, dOrT, dAnd, dOr, dNot, dNeg, dTup, dLst, dPar, dAsg, dSetIx, dApp, dLenS, dIxS, atL, res, resA, lift, wb, R.bind, R.bind_ok, R.bind_exc, tN, tNil', tCons', tTup', tSq', gSqL, gSqT, gAddI, gSubI, gMulI, gDivI, gModI, gAbs, gInt, gLen, gMax, gMin, gGt, gLt, gGe, gLe, List.map_cons, List.map_nil, List.length_cons, List.length_nil, List.replicate_succ, List.replicate_zero, List.cons_append, List.nil_append, List.append_nil, List.getElem?_cons_zero, List.getElem?_cons_succ, List.getElem?_nil, List.set_cons_zero, List.set_cons_succ, Option.join_some, Option.join_none, Option.bind_some, Option.bind_none, Nat.zero_add, Nat.reduceAdd, Nat.reduceSub, Nat.sub_zero, if_true, Bool.false_eq_true, if_false, ite_true, ite_false, gSet0, gSet1, gSet2, gIx0, gIx1, gIx2, gIxL0, gIxL1, gIxL2, gCmp, decide_true, decide_false, Bool.not_true, Bool.not_false, Option.map_some, liftL, iVal, iArg, e3]
    | false =>
      obtain ⟨d, b3, e3, hd, h3⟩ := sem_odd25 (a := a) hp hw (by omega) h2 (by omega)
      refine ⟨d, b3, ?_, ⟨hd.1, .inl hd.2⟩, h3.mono (by omega)⟩
      generalize rowD ps w = R1 at *
      generalize nl.map fr = NL at *
      simp only [fnD, dSeq, dSet, dRet, dRetS, dRetN, dCall, dCallB, dCallO, dCons, dNil, dVar, dSlot, dC, dOp, dIf, dIfS, dNx, dTest, dNotT, dAndT, dOrT, dAnd, dOr, dNot, dNeg, dTup, dLst, dPar, dAsg, dSetIx, dApp, dLenS, dIxS, atL, res, resA, lift, wb, R.bind, R.bind_ok, R.bind_exc, tN, tNil', tCons', tTup', tSq', gSqL, gSqT, gAddI, gSubI, gMulI, gDivI, gModI, gAbs, gInt, gLen, gMax, gMin, gGt, gLt, gGe, gLe, List.map_cons, List.map_nil, List.length_cons, List.length_nil, List.replicate_succ, List.replicate_zero, List.cons_append, List.nil_append, List.append_nil, List.getElem?_cons_zero, List.getElem?_cons_succ, List.getElem?_nil, List.set_cons_zero, List.set_cons_succ, Option.join_some, Option.join_none, Option.bind_some, Option.bind_none, Nat.zero_add, Nat.reduceAdd, Nat.reduceSub, Nat.sub_zero, if_true, Bool.false_eq_true, if_false, ite_true, ite_false, gSet0, gSet1, gSet2, gIx0, gIx1, gIx2, gIxL0, gIxL1, gIxL2, gCmp, decide_true, decide_false, Bool.not_true, Bool.not_false, Option.map_some, liftL, iVal, iArg, e3]
  obtain ⟨rb, s1, s2, q4⟩ := shows25 hd hn
  have q4 := q4 (x0 := some b3) (x1 := some (rowD ps w)) (x2 := x2) (x4 := x4) (x5 := x5) (x6 := some (.int (a : Int))) (x7 := some (.bool (decide (t = 0)))) (x9 := some (.str (PyData.shown d))) (x10 := x10)
  have r1 := hd.1.repr (by decide) (by decide) (by decide)
  have sm := same_bl rb
  have ne : gNeS (.str (PyData.shown d)) (.str (PyData.shown d)) = some (.bool false) := by
    show some (PyData.bool (!decide (PyData.shown d = PyData.shown d))) = _
    rw [decide_eq_true rfl]
    rfl
  have p0 : (dSet 6 (dCall [0] [(some 0), none] [0] [] fn_law_take (dCons (dSlot 0) (dCons (dOp none none gAdd (dCallB [none] gLen (dCons (dOp none none gIx (dVar 1) (dC (.int 0))) dNil)) (dC (.int 1))) dNil)))) [some bx, some (rowD ps w), x2, some (.list (nl.map fr)), x4, x5, x6, x7, x8, x9, x10] = .ok .nx [some b1, some (rowD ps w), x2, some (.list (nl.map fr)), x4, x5, some (.int (a : Int)), x7, x8, x9, x10] := by
    generalize rowD ps w = R1 at *
    generalize nl.map fr = NL at *
    simp only [fnD, dSeq, dSet, dRet, dRetS, dRetN, dCall, dCallB, dCallO, dCons, dNil, dVar, dSlot, dC, dOp, dIf, dIfS, dNx, dTest, dNotT, dAndT, dOrT, dAnd, dOr, dNot, dNeg, dTup, dLst, dPar, dAsg, dSetIx, dApp, dLenS, dIxS, atL, res, resA, lift, wb, R.bind, R.bind_ok, R.bind_exc, tN, tNil', tCons', tTup', tSq', gSqL, gSqT, gAddI, gSubI, gMulI, gDivI, gModI, gAbs, gInt, gLen, gMax, gMin, gGt, gLt, gGe, gLe, List.map_cons, List.map_nil, List.length_cons, List.length_nil, List.replicate_succ, List.replicate_zero, List.cons_append, List.nil_append, List.append_nil, List.getElem?_cons_zero, List.getElem?_cons_succ, List.getElem?_nil, List.set_cons_zero, List.set_cons_succ, Option.join_some, Option.join_none, Option.bind_some, Option.bind_none, Nat.zero_add, Nat.reduceAdd, Nat.reduceSub, Nat.sub_zero, if_true, Bool.false_eq_true, if_false, ite_true, ite_false, gSet0, gSet1, gSet2, gIx0, gIx1, gIx2, gIxL0, gIxL1, gIxL2, gCmp, decide_true, decide_false, Bool.not_true, Bool.not_false, Option.map_some, liftL, iVal, iArg, i0, gl, e1]
  have p1 : (dSet 7 (dOp none none gEq (dCall [0] [(some 0), none] [0] [] fn_law_take (dCons (dSlot 0) (dCons (dC (.int 2)) dNil))) (dC (.int 0)))) [some b1, some (rowD ps w), x2, some (.list (nl.map fr)), x4, x5, some (.int (a : Int)), x7, x8, x9, x10] = .ok .nx [some b2, some (rowD ps w), x2, some (.list (nl.map fr)), x4, x5, some (.int (a : Int)), some (.bool (decide (t = 0))), x8, x9, x10] := by
    generalize rowD ps w = R1 at *
    generalize nl.map fr = NL at *
    simp only [fnD, dSeq, dSet, dRet, dRetS, dRetN, dCall, dCallB, dCallO, dCons, dNil, dVar, dSlot, dC, dOp, dIf, dIfS, dNx, dTest, dNotT, dAndT, dOrT, dAnd, dOr, dNot, dNeg, dTup, dLst, dPar, dAsg, dSetIx, dApp, dLenS, dIxS, atL, res, resA, lift, wb, R.bind, R.bind_ok, R.bind_exc, tN, tNil', tCons', tTup', tSq', gSqL, gSqT, gAddI, gSubI, gMulI, gDivI, gModI, gAbs, gInt, gLen, gMax, gMin, gGt, gLt, gGe, gLe, List.map_cons, List.map_nil, List.length_cons, List.length_nil, List.replicate_succ, List.replicate_zero, List.cons_append, List.nil_append, List.append_nil, List.getElem?_cons_zero, List.getElem?_cons_succ, List.getElem?_nil, List.set_cons_zero, List.set_cons_succ, Option.join_some, Option.join_none, Option.bind_some, Option.bind_none, Nat.zero_add, Nat.reduceAdd, Nat.reduceSub, Nat.sub_zero, if_true, Bool.false_eq_true, if_false, ite_true, ite_false, gSet0, gSet1, gSet2, gIx0, gIx1, gIx2, gIxL0, gIxL1, gIxL2, gCmp, decide_true, decide_false, Bool.not_true, Bool.not_false, Option.map_some, liftL, iVal, iArg, e2, ge]
  have p3 : (dSet 9 (dCallB [none] gRepr (dCons (dVar 8) dNil))) [some b3, some (rowD ps w), x2, some (.list (nl.map fr)), x4, x5, some (.int (a : Int)), some (.bool (decide (t = 0))), some d, x9, x10] = .ok .nx [some b3, some (rowD ps w), x2, some (.list (nl.map fr)), x4, x5, some (.int (a : Int)), some (.bool (decide (t = 0))), some d, some (.str (PyData.shown d)), x10] := by
    generalize rowD ps w = R1 at *
    generalize nl.map fr = NL at *
    simp only [fnD, dSeq, dSet, dRet, dRetS, dRetN, dCall, dCallB, dCallO, dCons, dNil, dVar, dSlot, dC, dOp, dIf, dIfS, dNx, dTest, dNotT, dAndT, dOrT, dAnd, dOr, dNot, dNeg, dTup, dLst, dPar, dAsg, dSetIx, dApp, dLenS, dIxS, atL, res, resA, lift, wb, R.bind, R.bind_ok, R.bind_exc, tN, tNil', tCons', tTup', tSq', gSqL, gSqT, gAddI, gSubI, gMulI, gDivI, gModI, gAbs, gInt, gLen, gMax, gMin, gGt, gLt, gGe, gLe, List.map_cons, List.map_nil, List.length_cons, List.length_nil, List.replicate_succ, List.replicate_zero, List.cons_append, List.nil_append, List.append_nil, List.getElem?_cons_zero, List.getElem?_cons_succ, List.getElem?_nil, List.set_cons_zero, List.set_cons_succ, Option.join_some, Option.join_none, Option.bind_some, Option.bind_none, Nat.zero_add, Nat.reduceAdd, Nat.reduceSub, Nat.sub_zero, if_true, Bool.false_eq_true, if_false, ite_true, ite_false, gSet0, gSet1, gSet2, gIx0, gIx1, gIx2, gIxL0, gIxL1, gIxL2, gCmp, decide_true, decide_false, Bool.not_true, Bool.not_false, Option.map_some, liftL, iVal, iArg, r1]
  have p5 : (dIfS (dNotT (dTest (dCall [] [none, none] [] [] (fn_law_same 10) (dCons (dCall [] [none, none] [] [] fn_shows_row (dCons (dIf (dTest (dOp none none gEq (dOp none none gMod (dVar 6) (dC (.int 2))) (dC (.int 0)))) (dCallB [none] gTuple (dCons (dVar 3) dNil)) (dVar 3)) (dCons (dVar 8) dNil))) (dCons (dVar 10) dNil))))) (dRet (dC (.bool false))) dNx) [some b3, some (rowD ps w), x2, some (.list (nl.map fr)), x4, x5, some (.int (a : Int)), some (.bool (decide (t = 0))), some d, some (.str (PyData.shown d)), some (.bool rb)] = .ok .nx [some b3, some (rowD ps w), x2, some (.list (nl.map fr)), x4, x5, some (.int (a : Int)), some (.bool (decide (t = 0))), some d, some (.str (PyData.shown d)), some (.bool rb)] := by
    have gm : gMod (.int (a : Int)) (.int 2) = some (.int ((a : Int).fmod 2)) := gModI _ _ (by decide)
    have gz : gEq (.int ((a : Int).fmod 2)) (.int 0) = some (.bool (decide ((a : Int).fmod 2 = 0))) := eq_ints _ 0
    have gt : gTuple [.list (nl.map fr)] = some (.tuple (nl.map fr)) := rfl
    generalize rowD ps w = R1 at *
    generalize nl.map fr = NL at *
    cases hm : decide ((a : Int).fmod 2 = 0) with
    | true =>
      rw [hm] at gz
      simp only [fnD, dSeq, dSet, dRet, dRetS, dRetN, dCall, dCallB, dCallO, dCons, dNil, dVar, dSlot, dC, dOp, dIf, dIfS, dNx, dTest, dNotT, dAndT, dOrT, dAnd, dOr, dNot, dNeg, dTup, dLst, dPar, dAsg, dSetIx, dApp, dLenS, dIxS, atL, res, resA, lift, wb, R.bind, R.bind_ok, R.bind_exc, tN, tNil', tCons', tTup', tSq', gSqL, gSqT, gAddI, gSubI, gMulI, gDivI, gModI, gAbs, gInt, gLen, gMax, gMin, gGt, gLt, gGe, gLe, List.map_cons, List.map_nil, List.length_cons, List.length_nil, List.replicate_succ, List.replicate_zero, List.cons_append, List.nil_append, List.append_nil, List.getElem?_cons_zero, List.getElem?_cons_succ, List.getElem?_nil, List.set_cons_zero, List.set_cons_succ, Option.join_some, Option.join_none, Option.bind_some, Option.bind_none, Nat.zero_add, Nat.reduceAdd, Nat.reduceSub, Nat.sub_zero, if_true, Bool.false_eq_true, if_false, ite_true, ite_false, gSet0, gSet1, gSet2, gIx0, gIx1, gIx2, gIxL0, gIxL1, gIxL2, gCmp, decide_true, decide_false, Bool.not_true, Bool.not_false, Option.map_some, liftL, iVal, iArg, gm, gz, gt, s2, sm]
    | false =>
      rw [hm] at gz
      simp only [fnD, dSeq, dSet, dRet, dRetS, dRetN, dCall, dCallB, dCallO, dCons, dNil, dVar, dSlot, dC, dOp, dIf, dIfS, dNx, dTest, dNotT, dAndT, dOrT, dAnd, dOr, dNot, dNeg, dTup, dLst, dPar, dAsg, dSetIx, dApp, dLenS, dIxS, atL, res, resA, lift, wb, R.bind, R.bind_ok, R.bind_exc, tN, tNil', tCons', tTup', tSq', gSqL, gSqT, gAddI, gSubI, gMulI, gDivI, gModI, gAbs, gInt, gLen, gMax, gMin, gGt, gLt, gGe, gLe, List.map_cons, List.map_nil, List.length_cons, List.length_nil, List.replicate_succ, List.replicate_zero, List.cons_append, List.nil_append, List.append_nil, List.getElem?_cons_zero, List.getElem?_cons_succ, List.getElem?_nil, List.set_cons_zero, List.set_cons_succ, Option.join_some, Option.join_none, Option.bind_some, Option.bind_none, Nat.zero_add, Nat.reduceAdd, Nat.reduceSub, Nat.sub_zero, if_true, Bool.false_eq_true, if_false, ite_true, ite_false, gSet0, gSet1, gSet2, gIx0, gIx1, gIx2, gIxL0, gIxL1, gIxL2, gCmp, decide_true, decide_false, Bool.not_true, Bool.not_false, Option.map_some, liftL, iVal, iArg, gm, gz, s1, sm]
  have p6 : (dIfS (dTest (dOp none none gNeS (dCallB [none] gRepr (dCons (dVar 8) dNil)) (dVar 9))) (dRet (dC (.bool false))) dNx) [some b3, some (rowD ps w), x2, some (.list (nl.map fr)), x4, x5, some (.int (a : Int)), some (.bool (decide (t = 0))), some d, some (.str (PyData.shown d)), some (.bool rb)] = .ok .nx [some b3, some (rowD ps w), x2, some (.list (nl.map fr)), x4, x5, some (.int (a : Int)), some (.bool (decide (t = 0))), some d, some (.str (PyData.shown d)), some (.bool rb)] := by
    generalize rowD ps w = R1 at *
    generalize nl.map fr = NL at *
    generalize PyData.shown d = SH at *
    simp only [fnD, dSeq, dSet, dRet, dRetS, dRetN, dCall, dCallB, dCallO, dCons, dNil, dVar, dSlot, dC, dOp, dIf, dIfS, dNx, dTest, dNotT, dAndT, dOrT, dAnd, dOr, dNot, dNeg, dTup, dLst, dPar, dAsg, dSetIx, dApp, dLenS, dIxS, atL, res, resA, lift, wb, R.bind, R.bind_ok, R.bind_exc, tN, tNil', tCons', tTup', tSq', gSqL, gSqT, gAddI, gSubI, gMulI, gDivI, gModI, gAbs, gInt, gLen, gMax, gMin, gGt, gLt, gGe, gLe, List.map_cons, List.map_nil, List.length_cons, List.length_nil, List.replicate_succ, List.replicate_zero, List.cons_append, List.nil_append, List.append_nil, List.getElem?_cons_zero, List.getElem?_cons_succ, List.getElem?_nil, List.set_cons_zero, List.set_cons_succ, Option.join_some, Option.join_none, Option.bind_some, Option.bind_none, Nat.zero_add, Nat.reduceAdd, Nat.reduceSub, Nat.sub_zero, if_true, Bool.false_eq_true, if_false, ite_true, ite_false, gSet0, gSet1, gSet2, gIx0, gIx1, gIx2, gIxL0, gIxL1, gIxL2, gCmp, decide_true, decide_false, Bool.not_true, Bool.not_false, Option.map_some, liftL, iVal, iArg, r1, ne]
  exact ⟨b3, _, _, _, _, _, (dseq_nx p0).trans ((dseq_nx p1).trans ((dseq_nx q2).trans ((dseq_nx p3).trans ((dseq_nx q4).trans ((dseq_nx p5).trans p6))))), h3.mono (by omega)⟩
end
theorem right25 {B : Nat} {bx : D} (hb : Box B bx) (hB : B ≤ 40000) : ∃ bx', fn_law_right_v2 [bx] = .ok (.bool true) [some bx'] ∧ Box (B + 250) bx' := by
  have lm : lim = 1000000 := rfl
  obtain ⟨ps, w, b1, e1, hl, hp, hw, h1⟩ := sem_light_row (most := 5) hb (by omega) (by omega)
  obtain ⟨t, b2, e2, a2, c2, h2⟩ := sem_take (s := 4) h1 (by decide) (bits_ok (by decide)) (by omega)
  obtain ⟨z, b3, e3, a3, c3, h3⟩ := sem_take (s := 3) h2 (by decide) (bits_ok (by decide)) (by omega)
  obtain ⟨n, hn⟩ : ∃ n : Nat, (if (0 : Int) < (ps.length : Int) + t - 1 then (ps.length : Int) + t - 1 else 0) = (n : Int) := ⟨(if (0 : Int) < (ps.length : Int) + t - 1 then (ps.length : Int) + t - 1 else 0).toNat, by split <;> omega⟩
  have hn8 : n ≤ 8 := by split at hn <;> omega
  have ec := sem_law_echo bot63' (many := n) hw (fun p hp' => (hp p hp').lw) (by omega) (by omega) (by omega)
  have i0 : gIx (rowD ps w) (.int 0) = some (.tuple (ps.map fr)) := rfl
  have gl : gLen [.tuple (ps.map fr)] = some (.int (ps.length : Int)) := by show some (PyData.int ((ps.map fr).length : Int)) = _; rw [List.length_map]
  simp only [gLen] at gl
  obtain ⟨l0, hl0⟩ : ∃ l0, l0 = tk n (Ech (w : Rat) ps) := ⟨_, rfl⟩
  have ll : l0.length = n := by rw [hl0]; exact tk_len _ _
  have plE : pl (Ech (w : Rat) ps) n = l0.map fr := by rw [hl0, pl_tk]
  rw [plE] at ec
  have q0 : (dSet 1 (dCall [0] [(some 0), none] [0] [] fn_law_light_row (dCons (dSlot 0) (dCons (dC (.int 5)) dNil)))) ([some bx] ++ List.replicate 10 none) = .ok .nx [some b1, some (rowD ps w), none, none, none, none, none, none, none, none, none] := by
    show (dSet 1 (dCall [0] [(some 0), none] [0] [] fn_law_light_row (dCons (dSlot 0) (dCons (dC (.int 5)) dNil)))) [some bx, none, none, none, none, none, none, none, none, none, none] = _
    have e1 : fn_law_light_row [bx, .int 5] = .ok (rowD ps w) [some b1] := e1
    simp only [fnD, dSeq, dSet, dRet, dRetS, dRetN, dCall, dCallB, dCallO, dCons, dNil, dVar, dSlot, dC, dOp, dIf, dIfS, dNx, dTest, dNotT, dAndT, dOrT, dAnd, dOr, dNot, dNeg, dTup, dLst, dPar, dAsg, dSetIx, dApp, dLenS, dIxS, atL, res, resA, lift, wb, R.bind, R.bind_ok, R.bind_exc, tN, tNil', tCons', tTup', tSq', gSqL, gSqT, gAddI, gSubI, gMulI, gDivI, gModI, gAbs, gInt, gLen, gMax, gMin, gGt, gLt, gGe, gLe, List.map_cons, List.map_nil, List.length_cons, List.length_nil, List.replicate_succ, List.replicate_zero, List.cons_append, List.nil_append, List.append_nil, List.getElem?_cons_zero, List.getElem?_cons_succ, List.getElem?_nil, List.set_cons_zero, List.set_cons_succ, Option.join_some, Option.join_none, Option.bind_some, Option.bind_none, Nat.zero_add, Nat.reduceAdd, Nat.reduceSub, Nat.sub_zero, if_true, Bool.false_eq_true, if_false, ite_true, ite_false, gSet0, gSet1, gSet2, gIx0, gIx1, gIx2, gIxL0, gIxL1, gIxL2, gCmp, decide_true, decide_false, Bool.not_true, Bool.not_false, Option.map_some, liftL, iVal, iArg, e1]
  have q1 : (dSet 2 (dOp none none gSub (dOp none none gAdd (dCallB [none] gLen (dCons (dOp none none gIx (dVar 1) (dC (.int 0))) dNil)) (dCall [0] [(some 0), none] [0] [] fn_law_take (dCons (dSlot 0) (dCons (dC (.int 4)) dNil)))) (dC (.int 1)))) [some b1, some (rowD ps w), none, none, none, none, none, none, none, none, none] = .ok .nx [some b2, some (rowD ps w), some (.int ((ps.length : Int) + t - 1)), none, none, none, none, none, none, none, none] := by
    generalize rowD ps w = R1 at *
    simp only [fnD, dSeq, dSet, dRet, dRetS, dRetN, dCall, dCallB, dCallO, dCons, dNil, dVar, dSlot, dC, dOp, dIf, dIfS, dNx, dTest, dNotT, dAndT, dOrT, dAnd, dOr, dNot, dNeg, dTup, dLst, dPar, dAsg, dSetIx, dApp, dLenS, dIxS, atL, res, resA, lift, wb, R.bind, R.bind_ok, R.bind_exc, tN, tNil', tCons', tTup', tSq', gSqL, gSqT, gAddI, gSubI, gMulI, gDivI, gModI, gAbs, gInt, gLen, gMax, gMin, gGt, gLt, gGe, gLe, List.map_cons, List.map_nil, List.length_cons, List.length_nil, List.replicate_succ, List.replicate_zero, List.cons_append, List.nil_append, List.append_nil, List.getElem?_cons_zero, List.getElem?_cons_succ, List.getElem?_nil, List.set_cons_zero, List.set_cons_succ, Option.join_some, Option.join_none, Option.bind_some, Option.bind_none, Nat.zero_add, Nat.reduceAdd, Nat.reduceSub, Nat.sub_zero, if_true, Bool.false_eq_true, if_false, ite_true, ite_false, gSet0, gSet1, gSet2, gIx0, gIx1, gIx2, gIxL0, gIxL1, gIxL2, gCmp, decide_true, decide_false, Bool.not_true, Bool.not_false, Option.map_some, liftL, iVal, iArg, i0, gl, e2]
  have q2 : (dSet 3 (dCall [] [none, none] [] [] fn_law_echo (dCons (dVar 1) (dCons (dCallB [none, none] gMax (dCons (dC (.int 0)) (dCons (dVar 2) dNil))) dNil)))) [some b2, some (rowD ps w), some (.int ((ps.length : Int) + t - 1)), none, none, none, none, none, none, none, none] = .ok .nx [some b2, some (rowD ps w), some (.int ((ps.length : Int) + t - 1)), some (.list (l0.map fr)), none, none, none, none, none, none, none] := by
    have gm : gMax [.int 0, .int ((ps.length : Int) + t - 1)] = some (.int (n : Int)) := by rw [← hn]; rfl
    generalize rowD ps w = R1 at *
    generalize l0.map fr = NL at *
    simp only [gMax] at gm
    simp only [fnD, dSeq, dSet, dRet, dRetS, dRetN, dCall, dCallB, dCallO, dCons, dNil, dVar, dSlot, dC, dOp, dIf, dIfS, dNx, dTest, dNotT, dAndT, dOrT, dAnd, dOr, dNot, dNeg, dTup, dLst, dPar, dAsg, dSetIx, dApp, dLenS, dIxS, atL, res, resA, lift, wb, R.bind, R.bind_ok, R.bind_exc, tN, tNil', tCons', tTup', tSq', gSqL, gSqT, gAddI, gSubI, gMulI, gDivI, gModI, gAbs, gInt, gLen, gMax, gMin, gGt, gLt, gGe, gLe, List.map_cons, List.map_nil, List.length_cons, List.length_nil, List.replicate_succ, List.replicate_zero, List.cons_append, List.nil_append, List.append_nil, List.getElem?_cons_zero, List.getElem?_cons_succ, List.getElem?_nil, List.set_cons_zero, List.set_cons_succ, Option.join_some, Option.join_none, Option.bind_some, Option.bind_none, Nat.zero_add, Nat.reduceAdd, Nat.reduceSub, Nat.sub_zero, if_true, Bool.false_eq_true, if_false, ite_true, ite_false, gSet0, gSet1, gSet2, gIx0, gIx1, gIx2, gIxL0, gIxL1, gIxL2, gCmp, decide_true, decide_false, Bool.not_true, Bool.not_false, Option.map_some, liftL, iVal, iArg, gm, ec]
  have ge : gEq (.int z) (.int 0) = some (.bool (decide (z = 0))) := eq_ints _ 0
  have gn : gNe (.list (l0.map fr)) (.list []) = some (.bool (!decide (l0 = []))) := gNe_frs l0 []
  obtain ⟨l1, b4, y4, hl1, q3, h4⟩ : ∃ (l1 : List Rat) (b4 : D) (y4 : Option D), l1.length = n ∧ (dIfS (dAndT (dTest (dOp none none gEq (dCall [0] [(some 0), none] [0] [] fn_law_take (dCons (dSlot 0) (dCons (dC (.int 3)) dNil))) (dC (.int 0)))) (dTest (dOp (some 3) none gNe (dSlot 3) (dLst dNil)))) (dSeq (dSet 4 (dCall [0] [(some 0), none] [0] [] fn_law_take (dCons (dSlot 0) (dCons (dCallB [(some 3)] gLen (dCons (dSlot 3) dNil)) dNil)))) (dSetIx 3 (dVar 4) (dCall [] [none, none] [] [] fn_law_plus (dCons (dOp (some 3) none gIx (dSlot 3) (dVar 4)) (dCons (dTup (dCons (dC (.int 1)) (dCons (dC (.int 60)) dNil))) dNil))))) dNx) [some b2, some (rowD ps w), some (.int ((ps.length : Int) + t - 1)), some (.list (l0.map fr)), none, none, none, none, none, none, none] = .ok .nx [some b4, some (rowD ps w), some (.int ((ps.length : Int) + t - 1)), some (.list (l1.map fr)), y4, none, none, none, none, none, none] ∧ Box (B + 30) b4 := by
    by_cases h0 : z = 0
    · by_cases he : l0 = []
      · refine ⟨l0, b3, none, ll, ?_, h3.mono (by omega)⟩
        have gn : gNe (.list (l0.map fr)) (.list []) = some (.bool false) := by rw [gn, decide_eq_true he]; rfl
        generalize rowD ps w = R1 at *
        generalize l0.map fr = NL at *
        simp only [fnD, dSeq, dSet, dRet, dRetS, dRetN, dCall, dCallB, dCallO, dCons, dNil, dVar, dSlot, dC, dOp, dIf, dIfS, dNx, dTest, dNotT, dAndT, dOrT, dAnd, dOr, dNot, dNeg, dTup, dLst, dPar, dAsg, dSetIx, dApp, dLenS, dIxS, atL, res, resA, lift, wb, R.bind, R.bind_ok, R.bind_exc, tN, tNil', tCons', tTup', tSq', gSqL, gSqT, gAddI, gSubI, gMulI, gDivI, gModI, gAbs, gInt, gLen, gMax, gMin, gGt, gLt, gGe, gLe, List.map_cons, List.map_nil, List.length_cons, List.length_nil, List.replicate_succ, List.replicate_zero, List.cons_append, List.nil_append, List.append_nil, List.getElem?_cons_zero, List.getElem?_cons_succ, List.getElem?_nil, List.set_cons_zero, List.set_cons_succ, Option.join_some, Option.join_none, Option.bind_some, Option.bind_none, Nat.zero_add, Nat.reduceAdd, Nat.reduceSub, Nat.sub_zero, if_true, Bool.false_eq_true, if_false, ite_true, ite_false, gSet0, gSet1, gSet2, gIx0, gIx1, gIx2, gIxL0, gIxL1, gIxL2, gCmp, decide_true, decide_false, Bool.not_true, Bool.not_false, Option.map_some, liftL, iVal, iArg, e3, ge, decide_eq_true h0, gn]
      · have hpos : 0 < l0.length := List.length_pos_iff.mpr he
        obtain ⟨s, b4, e4, a4, c4, h4⟩ := sem_take (s := (l0.length : Int)) h3 (by omega) (bits_ok (by omega)) (by omega)
        obtain ⟨s, rfl⟩ : ∃ sn : Nat, s = (sn : Int) := ⟨s.toNat, by omega⟩
        have hs : s < n := by omega
        have hc : l0.getD s 0 = (Ech (w : Rat) ps).c s := by rw [List.getD_eq_getElem?_getD, hl0, tk_get hs]; rfl
        have lwc := gra_ech (lw_wall (E := E63) hw) (fun p hp' => (hp p hp').lw) s
        have sc : Sm 1600 (l0.getD s 0) := by
          rw [hc]
          refine (lwc.sm bot63').le ?_
          have h1 : 90 * (2 * s + 1) ≤ 90 * 15 := Nat.mul_le_mul_left _ (by omega)
          have h2 : (2 * ps.length + 1) * s ≤ 11 * 7 := Nat.mul_le_mul (by omega) (by omega)
          omega
        have h60 : PyData.tuple [.int 1, .int 60] = fr (((1 : Int) : Rat) / ((60 : Int) : Rat)) := fr_mk (by decide) (by decide)
        have s60 : Sm 6 (((1 : Int) : Rat) / ((60 : Int) : Rat)) := (pane_of (t := 1) (u := 60) (by decide) (by decide) (by decide) (by decide)).sm
        have pl1 := sem_law_plus (p := l0.getD s 0) (q := ((1 : Int) : Rat) / ((60 : Int) : Rat)) (n := 1600) (m := 6) (by omega)
        have gi : gIx (.list (l0.map fr)) (.int (s : Int)) = some (fr (l0.getD s 0)) := gIxLn (by rw [List.getElem?_map, List.getD_eq_getElem?_getD, List.getElem?_eq_getElem (by omega)]; rfl)
        have gs : gSetIx (.list (l0.map fr)) (.int (s : Int)) (fr (l0.getD s 0 + ((1 : Int) : Rat) / ((60 : Int) : Rat))) = some (.list ((l0.set s (l0.getD s 0 + ((1 : Int) : Rat) / ((60 : Int) : Rat))).map fr)) := by
          rw [gSetLn (by rw [List.length_map]; omega), List.map_set]
        have gll : gLen [.list (l0.map fr)] = some (.int (l0.length : Int)) := by show some (PyData.int ((l0.map fr).length : Int)) = _; rw [List.length_map]
        simp only [gLen] at gll
        have gn : gNe (.list (l0.map fr)) (.list []) = some (.bool true) := by rw [gn, decide_eq_false he]; rfl
        refine ⟨l0.set s (l0.getD s 0 + ((1 : Int) : Rat) / ((60 : Int) : Rat)), b4, some (.int (s : Int)), by rw [List.length_set]; exact ll, ?_, h4.mono (by omega)⟩
        generalize (l0.set s (l0.getD s 0 + ((1 : Int) : Rat) / ((60 : Int) : Rat))).map fr = NL2 at *
        generalize fr (l0.getD s 0 + ((1 : Int) : Rat) / ((60 : Int) : Rat)) = F2 at *
        generalize fr (l0.getD s 0) = F1 at *
        generalize fr (((1 : Int) : Rat) / ((60 : Int) : Rat)) = F60 at *
        generalize rowD ps w = R1 at *
        generalize l0.map fr = NL at *
        simp only [dSetIx, fnD, dSeq, dSet, dRet, dRetS, dRetN, dCall, dCallB, dCallO, dCons, dNil, dVar, dSlot, dC, dOp, dIf, dIfS, dNx, dTest, dNotT, dAndT, dOrT, dAnd, dOr, dNot, dNeg, dTup, dLst, dPar, dAsg, dSetIx, dApp, dLenS, dIxS, atL, res, resA, lift, wb, R.bind, R.bind_ok, R.bind_exc, tN, tNil', tCons', tTup', tSq', gSqL, gSqT, gAddI, gSubI, gMulI, gDivI, gModI, gAbs, gInt, gLen, gMax, gMin, gGt, gLt, gGe, gLe, List.map_cons, List.map_nil, List.length_cons, List.length_nil, List.replicate_succ, List.replicate_zero, List.cons_append, List.nil_append, List.append_nil, List.getElem?_cons_zero, List.getElem?_cons_succ, List.getElem?_nil, List.set_cons_zero, List.set_cons_succ, Option.join_some, Option.join_none, Option.bind_some, Option.bind_none, Nat.zero_add, Nat.reduceAdd, Nat.reduceSub, Nat.sub_zero, if_true, Bool.false_eq_true, if_false, ite_true, ite_false, gSet0, gSet1, gSet2, gIx0, gIx1, gIx2, gIxL0, gIxL1, gIxL2, gCmp, decide_true, decide_false, Bool.not_true, Bool.not_false, Option.map_some, liftL, iVal, iArg, e3, ge, decide_eq_true h0, gn, gll, e4, gi, h60, pl1, gs]
    · refine ⟨l0, b3, none, ll, ?_, h3.mono (by omega)⟩
      generalize rowD ps w = R1 at *
      generalize l0.map fr = NL at *
      simp only [fnD, dSeq, dSet, dRet, dRetS, dRetN, dCall, dCallB, dCallO, dCons, dNil, dVar, dSlot, dC, dOp, dIf, dIfS, dNx, dTest, dNotT, dAndT, dOrT, dAnd, dOr, dNot, dNeg, dTup, dLst, dPar, dAsg, dSetIx, dApp, dLenS, dIxS, atL, res, resA, lift, wb, R.bind, R.bind_ok, R.bind_exc, tN, tNil', tCons', tTup', tSq', gSqL, gSqT, gAddI, gSubI, gMulI, gDivI, gModI, gAbs, gInt, gLen, gMax, gMin, gGt, gLt, gGe, gLe, List.map_cons, List.map_nil, List.length_cons, List.length_nil, List.replicate_succ, List.replicate_zero, List.cons_append, List.nil_append, List.append_nil, List.getElem?_cons_zero, List.getElem?_cons_succ, List.getElem?_nil, List.set_cons_zero, List.set_cons_succ, Option.join_some, Option.join_none, Option.bind_some, Option.bind_none, Nat.zero_add, Nat.reduceAdd, Nat.reduceSub, Nat.sub_zero, if_true, Bool.false_eq_true, if_false, ite_true, ite_false, gSet0, gSet1, gSet2, gIx0, gIx1, gIx2, gIxL0, gIxL1, gIxL2, gCmp, decide_true, decide_false, Bool.not_true, Bool.not_false, Option.map_some, liftL, iVal, iArg, e3, ge, decide_eq_false h0]
  have hg : gRange1 [.int 8] = some (rangeD 0 8) := gRange1_n (n := 8) (by omega)
  obtain ⟨r, q4, b5, y5, y6, y7, y8, y9, y10, hr, h5⟩ := forD_run (tg := tN 5) (f := den_law_right_v2_b0)
    (fun i r => ∃ (b5 : D) (y5 y6 y7 y8 y9 y10 : Option D), r = [some b5, some (rowD ps w), some (.int ((ps.length : Int) + t - 1)), some (.list (l1.map fr)), y4, y5, y6, y7, y8, y9, y10] ∧ Box (B + 30 + 20 * i) b5)
    (rangeD 0 8) 0 [some b4, some (rowD ps w), some (.int ((ps.length : Int) + t - 1)), some (.list (l1.map fr)), y4, none, none, none, none, none, none] (fun i x ρ hx hI => by
      obtain ⟨b5, y5, y6, y7, y8, y9, y10, rfl, h5⟩ := hI
      rw [Nat.zero_add] at *
      have hi : i < 8 := by have := (List.getElem?_eq_some_iff.mp hx).1; rwa [rangeD_len] at this
      obtain ⟨b6, z6, z7, z8, z9, z10, c1, c2⟩ := turn25 (x2 := some (.int ((ps.length : Int) + t - 1))) (x4 := y4) (x5 := some x) (x6 := y6) (x7 := y7) (x8 := y8) (x9 := y9) (x10 := y10) (nl := l1) hp hw hl (by omega) h5 (by omega)
      exact ⟨_, _, rfl, c1, b6, _, _, _, _, _, _, rfl, c2.mono (by omega)⟩) ⟨b4, _, _, _, _, _, _, rfl, h4⟩
  subst hr
  rw [rangeD_len] at h5
  have q4' : (dFor (iRange1 (dCons (dC (.int 8)) dNil)) (tN 5) den_law_right_v2_b0) [some b4, some (rowD ps w), some (.int ((ps.length : Int) + t - 1)), some (.list (l1.map fr)), y4, none, none, none, none, none, none] = .ok .nx [some b5, some (rowD ps w), some (.int ((ps.length : Int) + t - 1)), some (.list (l1.map fr)), y4, y5, y6, y7, y8, y9, y10] := by
    simp only [dFor, iRange1, iArg, fnD, dSeq, dSet, dRet, dRetS, dRetN, dCall, dCallB, dCallO, dCons, dNil, dVar, dSlot, dC, dOp, dIf, dIfS, dNx, dTest, dNotT, dAndT, dOrT, dAnd, dOr, dNot, dNeg, dTup, dLst, dPar, dAsg, dSetIx, dApp, dLenS, dIxS, atL, res, resA, lift, wb, R.bind, R.bind_ok, R.bind_exc, tN, tNil', tCons', tTup', tSq', gSqL, gSqT, gAddI, gSubI, gMulI, gDivI, gModI, gAbs, gInt, gLen, gMax, gMin, gGt, gLt, gGe, gLe, List.map_cons, List.map_nil, List.length_cons, List.length_nil, List.replicate_succ, List.replicate_zero, List.cons_append, List.nil_append, List.append_nil, List.getElem?_cons_zero, List.getElem?_cons_succ, List.getElem?_nil, List.set_cons_zero, List.set_cons_succ, Option.join_some, Option.join_none, Option.bind_some, Option.bind_none, Nat.zero_add, Nat.reduceAdd, Nat.reduceSub, Nat.sub_zero, if_true, Bool.false_eq_true, if_false, ite_true, ite_false, gSet0, gSet1, gSet2, gIx0, gIx1, gIx2, gIxL0, gIxL1, gIxL2, gCmp, decide_true, decide_false, Bool.not_true, Bool.not_false, Option.map_some, liftL, iVal, iArg, hg, q4]
  refine ⟨b5, ?_, h5.mono (by omega)⟩
  show (match den_law_right_v2 ([some bx] ++ List.replicate 10 none) with
    | .ok .nx r => R.ok PyData.none [(r[0]?).join]
    | .ok (.ret d) r => .ok d [(r[0]?).join]
    | .exc c es r => .exc c es [(r[0]?).join]
    | .stuck => .stuck) = _
  have body : den_law_right_v2 ([some bx] ++ List.replicate 10 none) = .ok (.ret (.bool true)) [some b5, some (rowD ps w), some (.int ((ps.length : Int) + t - 1)), some (.list (l1.map fr)), y4, y5, y6, y7, y8, y9, y10] := by
    unfold den_law_right_v2
    exact (dseq_nx q0).trans ((dseq_nx q1).trans ((dseq_nx q2).trans ((dseq_nx q3).trans ((dseq_nx q4').trans rfl))))
  rw [body]
  rfl
theorem box25 {ns : List Int} (hbt : ∀ z ∈ ns, PySem.Builtin.Int.intBits z ≤ 1048576) {j : Nat} (hj : j < 100) {y2 y3 : Option D} :
    ∃ z2 z3, den_law_v3_b0 [some (scriptD ns), some (.int (j : Int)), y2, y3] = .ok .nx [some (scriptD ns), some (.int (j : Int)), z2, z3] := by
  have lm : lim = 1000000 := rfl
  obtain ⟨b0, e0, h0⟩ := sem_box hbt j (by omega)
  have hg : gRange1 [.int 2] = some (rangeD 0 2) := gRange1_n (n := 2) (by omega)
  obtain ⟨ys, r, e, l1, h1, b2, u, rfl, h2⟩ := lcD_run (vs := [3]) (tg := tN 3) (te := dCall [0] [(some 2)] [2] [] fn_law_right_v2 (dCons (dSlot 2) dNil))
    (fun i r => ∃ b u, r = [some (scriptD ns), some (.int (j : Int)), some b, u] ∧ Box (250 * i) b) (fun _ y => y = .bool true) (rangeD 0 2) 0 [] [some (scriptD ns), some (.int (j : Int)), some b0, y3] (fun i x ρ hx hI => by
      obtain ⟨b, u, rfl, hb⟩ := hI
      rw [Nat.zero_add] at *
      have hi : i < 2 := by have := (List.getElem?_eq_some_iff.mp hx).1; rwa [rangeD_len] at this
      obtain ⟨b', e1, hb'⟩ := right25 hb (by omega)
      refine ⟨[some (scriptD ns), some (.int (j : Int)), some b, some x], .bool true, [some (scriptD ns), some (.int (j : Int)), some b', some x], rfl, ?_, rfl, b', _, rfl, hb'.mono (by omega)⟩
      simp only [fnD, dSeq, dSet, dRet, dRetS, dRetN, dCall, dCallB, dCallO, dCons, dNil, dVar, dSlot, dC, dOp, dIf, dIfS, dNx, dTest, dNotT, dAndT, dOrT, dAnd, dOr, dNot, dNeg, dTup, dLst, dPar, dAsg, dSetIx, dApp, dLenS, dIxS, atL, res, resA, lift, wb, R.bind, R.bind_ok, R.bind_exc, tN, tNil', tCons', tTup', tSq', gSqL, gSqT, gAddI, gSubI, gMulI, gDivI, gModI, gAbs, gInt, gLen, gMax, gMin, gGt, gLt, gGe, gLe, List.map_cons, List.map_nil, List.length_cons, List.length_nil, List.replicate_succ, List.replicate_zero, List.cons_append, List.nil_append, List.append_nil, List.getElem?_cons_zero, List.getElem?_cons_succ, List.getElem?_nil, List.set_cons_zero, List.set_cons_succ, Option.join_some, Option.join_none, Option.bind_some, Option.bind_none, Nat.zero_add, Nat.reduceAdd, Nat.reduceSub, Nat.sub_zero, if_true, Bool.false_eq_true, if_false, ite_true, ite_false, gSet0, gSet1, gSet2, gIx0, gIx1, gIx2, gIxL0, gIxL1, gIxL2, gCmp, decide_true, decide_false, Bool.not_true, Bool.not_false, Option.map_some, liftL, iVal, iArg, e1]) (by rw [rangeD_len]; simp; omega) ⟨b0, _, rfl, h0⟩
  have e2 : gAll [.list ys] = some (.bool true) := all_true fun i y hy => h1 i y hy
  refine ⟨some b2, y3, ?_⟩
  simp only [den_law_v3_b0, dLc, iRange1, iArg, wipeR, backR, fnD, dSeq, dSet, dRet, dRetS, dRetN, dCall, dCallB, dCallO, dCons, dNil, dVar, dSlot, dC, dOp, dIf, dIfS, dNx, dTest, dNotT, dAndT, dOrT, dAnd, dOr, dNot, dNeg, dTup, dLst, dPar, dAsg, dSetIx, dApp, dLenS, dIxS, atL, res, resA, lift, wb, R.bind, R.bind_ok, R.bind_exc, tN, tNil', tCons', tTup', tSq', gSqL, gSqT, gAddI, gSubI, gMulI, gDivI, gModI, gAbs, gInt, gLen, gMax, gMin, gGt, gLt, gGe, gLe, List.map_cons, List.map_nil, List.length_cons, List.length_nil, List.replicate_succ, List.replicate_zero, List.cons_append, List.nil_append, List.append_nil, List.getElem?_cons_zero, List.getElem?_cons_succ, List.getElem?_nil, List.set_cons_zero, List.set_cons_succ, Option.join_some, Option.join_none, Option.bind_some, Option.bind_none, Nat.zero_add, Nat.reduceAdd, Nat.reduceSub, Nat.sub_zero, if_true, Bool.false_eq_true, if_false, ite_true, ite_false, gSet0, gSet1, gSet2, gIx0, gIx1, gIx2, gIxL0, gIxL1, gIxL2, gCmp, decide_true, decide_false, Bool.not_true, Bool.not_false, Option.map_some, liftL, iVal, iArg, e0, hg, e, e2]
theorem sem_law_v3 (ns : List Int) (hl : ns.length ≤ 63) (hb : ∀ z ∈ ns, PySem.Builtin.Int.intBits z ≤ 1048576) : fn_law_v3 [scriptD ns] = .ok (.bool true) [] := by
  obtain ⟨n, hn, hn2⟩ : ∃ n : Nat, 1 + (if (ns.length : Int) < 2 then (ns.length : Int) else 2) = (n : Int) ∧ n ≤ 64 := by
    refine ⟨(1 + (if (ns.length : Int) < 2 then (ns.length : Int) else 2)).toNat, ?_, ?_⟩ <;> split <;> omega
  have hr := gRange1_n (n := n) (Nat.le_trans hn2 (by decide))
  obtain ⟨r, q, z1, z2, z3, hr'⟩ := forD_run (tg := tN 1) (f := den_law_v3_b0)
    (fun _ r => ∃ z1 z2 z3 : Option D, r = [some (scriptD ns), z1, z2, z3]) (rangeD 0 n) 0 [some (scriptD ns), none, none, none] (fun i x ρ hx hI => by
      obtain ⟨z1, z2, z3, rfl⟩ := hI
      obtain ⟨rfl, hi2⟩ := rangeD_at hx
      obtain ⟨u2, u3, c1⟩ := box25 hb (j := i) (by omega) (y2 := z2) (y3 := z3)
      refine ⟨[some (scriptD ns), some (.int (0 + (i : Nat))), z2, z3], [some (scriptD ns), some (.int (i : Int)), u2, u3], rfl, ?_, _, _, _, rfl⟩
      rw [Int.zero_add]
      exact c1) ⟨_, _, _, rfl⟩
  subst hr'
  have hlen : (ns.map PyData.int).length = ns.length := List.length_map _
  have hs : gLen [scriptD ns] = some (.int (ns.length : Int)) := by
    show some (PyData.int ((ns.map PyData.int).length : Int)) = _
    rw [hlen]
  simp only [gLen] at hs
  simp only [fn_law_v3, den_law_v3, dFor, iRange1, iArg, fnD, dSeq, dSet, dRet, dRetS, dRetN, dCall, dCallB, dCallO, dCons, dNil, dVar, dSlot, dC, dOp, dIf, dIfS, dNx, dTest, dNotT, dAndT, dOrT, dAnd, dOr, dNot, dNeg, dTup, dLst, dPar, dAsg, dSetIx, dApp, dLenS, dIxS, atL, res, resA, lift, wb, R.bind, R.bind_ok, R.bind_exc, tN, tNil', tCons', tTup', tSq', gSqL, gSqT, gAddI, gSubI, gMulI, gDivI, gModI, gAbs, gInt, gLen, gMax, gMin, gGt, gLt, gGe, gLe, List.map_cons, List.map_nil, List.length_cons, List.length_nil, List.replicate_succ, List.replicate_zero, List.cons_append, List.nil_append, List.append_nil, List.getElem?_cons_zero, List.getElem?_cons_succ, List.getElem?_nil, List.set_cons_zero, List.set_cons_succ, Option.join_some, Option.join_none, Option.bind_some, Option.bind_none, Nat.zero_add, Nat.reduceAdd, Nat.reduceSub, Nat.sub_zero, if_true, Bool.false_eq_true, if_false, ite_true, ite_false, gSet0, gSet1, gSet2, gIx0, gIx1, gIx2, gIxL0, gIxL1, gIxL2, gCmp, decide_true, decide_false, Bool.not_true, Bool.not_false, Option.map_some, liftL, iVal, iArg, hs, hn, hr, q]
end Dn

namespace Lw
open PySem PySem.Spec PyProof.Rows L2 Dn
section
variable {P : Program} {w : World} {K : PySem.W.Frag} {mg : Str → Option Value} {base : Heap} {xi : XI}
set_option maxHeartbeats 4000000
theorem bd_is_number (z_isinstance : mg "isinstance" = none) (z_int : mg "int" = none) (z_bool : mg "bool" = none) : ∀ vs : List V, vs.length = 1 → Bd P w K mg base ["thing"] "is_number" (defScope s_is_number) (defBody s_is_number) 0 xi (List.replicate 1 (mP K)) [] (mP K) den_is_number vs
  | [v0], _ => bd_of (om := []) (ms := [mP K]) (ms' := [mP K]) (fun f cdv A outer s H E c =>
  (jss_one (js_ret (je_and (je_isi "int" ((je_var 0)).jv z_isinstance z_int rfl) (je_one (je_not (je_isi "bool" ((je_var 0)).jv z_isinstance z_bool rfl)))))))
theorem bd_common  : ∀ vs : List V, vs.length = 2 → Bd P w K mg base ["one", "other"] "common" (defScope s_common) (defBody s_common) 0 xi (List.replicate 2 (mP K)) [] (mP K) den_common vs
  | [v0, v1], _ => bd_of (om := []) (ms := [mP K, mP K]) (ms' := [mP K, mP K]) (fun f cdv A outer s H E c =>
  (jss_cons (js_while 100000000 pas_of ((jb_cmp op_gt s_cmp ((je_var 1)).jv (je_int).jv)).jt (jss_one (js_par 0 1 c.calm c.nd (je_var 1) (je_op op_modN s_mod ((je_var 0)).jv ((je_var 1)).jv))))
  (jss_one (js_ret (je_var 0)))))
theorem bd_is_frac (z_isinstance : mg "isinstance" = none) (z_tuple : mg "tuple" = none) (z_len : mg "len" = none) (C_is_number : Cal P w K mg base 1 "is_number" (spF xi (List.replicate 1 (mP K)) [] (mP K) fn_is_number) []) (z_all : mg "all" = none) (C_common : Cal P w K mg base 1 "common" (spF xi (List.replicate 2 (mP K)) [] (mP K) fn_common) []) (z_abs : mg "abs" = none) : ∀ vs : List V, vs.length = 1 → Bd P w K mg base ["thing", "part", "top", "bottom"] "is_frac" (defScope s_is_frac) (defBody s_is_frac) 1 xi (List.replicate 1 (mP K)) [] (mP K) den_is_frac vs
  | [v0], _ => bd_of (om := []) (ms := [mP K, mP K, mP K, mP K]) (ms' := [mP K, mP K, mP K, mP K]) (fun f cdv A outer s H E c =>
  (jss_cons (js_if (ms' := [mP _, mP _, mP _, mP _]) ((jw_or (jt_not ((je_isi "tuple" ((je_var 0)).jv z_isinstance z_tuple rfl)).jb.jt) (jw_or ((jb_cmp (op_neD (room_u c.room)) s_ne ((je_callB call_lenA c_len z_len PySem.boot_len (ja_cons ((je_var 0)).jv ja_nil))).jv (je_int).jv)).jt (jw_or1 (jt_not ((je_callB (cr_all c.calm) c_all z_all rfl (ja_cons ((je_frz (je_lc (own := [("part", 1)]) c (ji_sq (je_var 0)) (by kernel_rfl) (by intro i hi; simp only [List.map, List.mem_cons, List.not_mem_nil, or_false] at hi; rcases hi with rfl <;> rfl) (by intro i hi; simp only [List.append_nil, List.cons_append, List.nil_append, List.map, List.mem_cons, List.not_mem_nil, or_false] at hi ⊢; omega) (fun _ _ _ _ _ => (jg_name 1 c.blk.nd)) (fun _ _ _ _ _ => jts_nil) (fun _ _ _ _ _ => (je_call (dds := []) c.blk C_is_number (argOk0 1) (fun _ => .nil) (ja_cons ((je_var 1)).jv ja_nil)))))).jv ja_nil))).jb.jt))))).jt (jss_one (js_ret je_bl)) jss_nil)
  (jss_cons (js_asg (je_var 0) (jg_sq c.calm (jgs_cons (jg_name 2 c.nd) (jgs_cons (jg_name 3 c.nd) jgs_nil))))
  (jss_one (js_ret (je_and ((jb_cmp op_gt s_cmp ((je_var 3)).jv (je_int).jv)).je (je_one ((jb_cmp (op_eqD (room_u c.room)) s_eq ((je_call (dds := []) c C_common (argOk0 2) (fun _ => .nil) (ja_cons ((je_callB call_abs c_abs z_abs rfl (ja_cons ((je_var 2)).jv ja_nil))).jv (ja_cons ((je_var 3)).jv ja_nil)))).jv (je_int).jv)).je)))))))
theorem bd_frac (C_common : Cal P w K mg base 1 "common" (spF xi (List.replicate 2 (mP K)) [] (mP K) fn_common) []) (z_abs : mg "abs" = none) : ∀ vs : List V, vs.length = 2 → Bd P w K mg base ["top", "bottom", "by"] "frac" (defScope s_frac) (defBody s_frac) 1 xi (List.replicate 2 (mP K)) [] (mP K) den_frac vs
  | [v0, v1], _ => bd_of (om := []) (ms := [mP K, mP K, mP K]) (ms' := [mP K, mP K, mP K]) (fun f cdv A outer s H E c =>
  (jss_cons (js_set 2 (je_call (dds := []) c C_common (argOk0 2) (fun _ => .nil) (ja_cons ((je_callB call_abs c_abs z_abs rfl (ja_cons ((je_var 0)).jv ja_nil))).jv (ja_cons ((je_callB call_abs c_abs z_abs rfl (ja_cons ((je_var 1)).jv ja_nil))).jv ja_nil))) c.nd)
  (jss_cons (js_set 2 (je_if ((jb_cmp op_gt s_cmp ((je_var 1)).jv (je_int).jv)).jt (je_var 2) (je_neg (je_var 2))) c.nd)
  (jss_one (js_ret (je_tup (ja_cons ((je_op op_fdivX s_div ((je_var 0)).jv ((je_var 2)).jv)).jv (ja_cons ((je_op op_fdivX s_div ((je_var 1)).jv ((je_var 2)).jv)).jv ja_nil))))))))
theorem bd_minus (C_frac : Cal P w K mg base 2 "frac" (spF xi (List.replicate 2 (mP K)) [] (mP K) fn_frac) []) : ∀ vs : List V, vs.length = 2 → Bd P w K mg base ["one", "other"] "minus" (defScope s_minus) (defBody s_minus) 2 xi (List.replicate 2 (mP K)) [] (mP K) den_minus vs
  | [v0, v1], _ => bd_of (om := []) (ms := [mP K, mP K]) (ms' := [mP K, mP K]) (fun f cdv A outer s H E c =>
  (jss_one (js_ret (je_call (dds := []) c C_frac (argOk0 2) (fun _ => .nil) (ja_cons ((je_op op_sub s_sub ((je_op op_mulA s_mul ((je_ix ((je_var 0)).jv (je_int).jv)).jv ((je_ix ((je_var 1)).jv (je_int).jv)).jv)).jv ((je_op op_mulA s_mul ((je_ix ((je_var 1)).jv (je_int).jv)).jv ((je_ix ((je_var 0)).jv (je_int).jv)).jv)).jv)).jv (ja_cons ((je_op op_mulA s_mul ((je_ix ((je_var 0)).jv (je_int).jv)).jv ((je_ix ((je_var 1)).jv (je_int).jv)).jv)).jv ja_nil))))))
theorem bd_times (C_frac : Cal P w K mg base 2 "frac" (spF xi (List.replicate 2 (mP K)) [] (mP K) fn_frac) []) : ∀ vs : List V, vs.length = 2 → Bd P w K mg base ["one", "other"] "times" (defScope s_times) (defBody s_times) 2 xi (List.replicate 2 (mP K)) [] (mP K) den_times vs
  | [v0, v1], _ => bd_of (om := []) (ms := [mP K, mP K]) (ms' := [mP K, mP K]) (fun f cdv A outer s H E c =>
  (jss_one (js_ret (je_call (dds := []) c C_frac (argOk0 2) (fun _ => .nil) (ja_cons ((je_op op_mulA s_mul ((je_ix ((je_var 0)).jv (je_int).jv)).jv ((je_ix ((je_var 1)).jv (je_int).jv)).jv)).jv (ja_cons ((je_op op_mulA s_mul ((je_ix ((je_var 0)).jv (je_int).jv)).jv ((je_ix ((je_var 1)).jv (je_int).jv)).jv)).jv ja_nil))))))
theorem bd_over (C_frac : Cal P w K mg base 2 "frac" (spF xi (List.replicate 2 (mP K)) [] (mP K) fn_frac) []) : ∀ vs : List V, vs.length = 2 → Bd P w K mg base ["one", "other"] "over" (defScope s_over) (defBody s_over) 2 xi (List.replicate 2 (mP K)) [] (mP K) den_over vs
  | [v0, v1], _ => bd_of (om := []) (ms := [mP K, mP K]) (ms' := [mP K, mP K]) (fun f cdv A outer s H E c =>
  (jss_one (js_ret (je_call (dds := []) c C_frac (argOk0 2) (fun _ => .nil) (ja_cons ((je_op op_mulA s_mul ((je_ix ((je_var 0)).jv (je_int).jv)).jv ((je_ix ((je_var 1)).jv (je_int).jv)).jv)).jv (ja_cons ((je_op op_mulA s_mul ((je_ix ((je_var 0)).jv (je_int).jv)).jv ((je_ix ((je_var 1)).jv (je_int).jv)).jv)).jv ja_nil))))))
theorem bd_padded (z_list : mg "list" = none) (g_NOUGHT : GlK K mg "NOUGHT" (.tuple [(.int 0), (.int 1)])) (z_len : mg "len" = none) (z_max : mg "max" = none) : ∀ vs : List V, vs.length = 2 → Bd P w K mg base ["poly", "many"] "padded" (defScope s_padded) (defBody s_padded) 0 xi (List.replicate 2 (mP K)) [] (mL K) den_padded vs
  | [v0, v1], _ => bd_ofR (om := []) (ms := [mP K, mP K]) (ms' := [mP K, mP K]) (fun f cdv A outer s H E c =>
  (jss_one (js_ret (je_opL op_cat s_catL ((je_frz (je_callTL call_list_of c_list z_list rfl (ja_cons ((je_var 0)).jv ja_nil)))).jv ((je_op op_mulA s_mul ((je_frz (je_lstL (ja_cons ((je_gl g_NOUGHT)).jv ja_nil)))).jv ((je_callB (call_max2 c.calm) c_max z_max rfl (ja_cons (je_int).jv (ja_cons ((je_op op_sub s_sub ((je_var 1)).jv ((je_callB call_lenA c_len z_len PySem.boot_len (ja_cons ((je_var 0)).jv ja_nil))).jv)).jv ja_nil)))).jv)).jv)))) nn_ret
theorem bd_quotient_to (C_padded : Cal P w K mg base 1 "padded" (spF xi (List.replicate 2 (mP K)) [] (mL K) fn_padded) []) (z_range : mg "range" = none) (C_over : Cal P w K mg base 3 "over" (spF xi (List.replicate 2 (mP K)) [] (mP K) fn_over) []) (C_minus : Cal P w K mg base 3 "minus" (spF xi (List.replicate 2 (mP K)) [] (mP K) fn_minus) []) (C_times : Cal P w K mg base 3 "times" (spF xi (List.replicate 2 (mP K)) [] (mP K) fn_times) []) : ∀ vs : List V, vs.length = 3 → Bd P w K mg base ["one", "other", "many", "rest", "found", "by", "power", "step"] "quotient_to" (defScope s_quotient_to) (defBody s_quotient_to) 3 xi (List.replicate 3 (mP K)) [] (mL K) den_quotient_to vs
  | [v0, v1, v2], _ => bd_ofR (om := []) (ms := [mP K, mP K, mP K, mP K, mP K, mP K, mP K, mP K]) (ms' := [mP K, mP K, mP K, mL K, mL K, mP K, mP K, mP K]) (fun f cdv A outer s H E c =>
  (jss_cons (js_par 3 4 c.calm c.nd (je_call (dds := []) c C_padded (argOk0 2) (fun _ => .nil) (ja_cons ((je_var 0)).jv (ja_cons ((je_var 2)).jv ja_nil))) (je_lstL ja_nil))
  (jss_cons (js_set 5 (je_frz (je_call (dds := []) c C_padded (argOk0 2) (fun _ => .nil) (ja_cons ((je_var 1)).jv (ja_cons ((je_var 2)).jv ja_nil)))) c.nd)
  (jss_cons (js_for c.calm pas_of (ji_range1 z_range (ja_cons ((je_var 2)).jv ja_nil)) (jg_name 6 c.nd) (jss_cons (js_append 4 (je_call (dds := []) c C_over (argOk0 2) (fun _ => .nil) (ja_cons ((je_ix (jv_slot 3) ((je_var 6)).jv)).jv (ja_cons ((je_ix ((je_var 5)).jv (je_int).jv)).jv ja_nil))) lo_L)
  (jss_one (js_for c.calm pas_of (ji_range1 z_range (ja_cons ((je_op op_sub s_sub ((je_var 2)).jv ((je_var 6)).jv)).jv ja_nil)) (jg_name 7 c.nd) (jss_one (js_setIx 3 (je_call (dds := []) c C_minus (argOk0 2) (fun _ => .nil) (ja_cons ((je_ix (jv_slot 3) ((je_op op_addA s_add ((je_var 6)).jv ((je_var 7)).jv)).jv)).jv (ja_cons ((je_call (dds := []) c C_times (argOk0 2) (fun _ => .nil) (ja_cons ((je_ix (jv_slot 4) ((je_neg je_int)).jv)).jv (ja_cons ((je_ix ((je_var 5)).jv ((je_var 7)).jv)).jv ja_nil)))).jv ja_nil))) (je_op op_addA s_add ((je_var 6)).jv ((je_var 7)).jv) lo_L))))))
  (jss_one (js_retL 4)))))) (nn_seq (nn_seq (nn_seq nn_retS)))
theorem bd_is_pane (C_is_frac : Cal P w K mg base 2 "is_frac" (spF xi (List.replicate 1 (mP K)) [] (mP K) fn_is_frac) []) (z_abs : mg "abs" = none) : ∀ vs : List V, vs.length = 1 → Bd P w K mg base ["thing"] "is_pane" (defScope s_is_pane) (defBody s_is_pane) 2 xi (List.replicate 1 (mP K)) [] (mP K) den_is_pane vs
  | [v0], _ => bd_of (om := []) (ms := [mP K]) (ms' := [mP K]) (fun f cdv A outer s H E c =>
  (jss_one (js_ret (je_and (je_call (dds := []) c C_is_frac (argOk0 1) (fun _ => .nil) (ja_cons ((je_var 0)).jv ja_nil)) (je_one ((jb_cmp op_lt s_cmp ((je_callB call_abs c_abs z_abs rfl (ja_cons ((je_ix ((je_var 0)).jv (je_int).jv)).jv ja_nil))).jv ((je_ix ((je_var 0)).jv (je_int).jv)).jv)).je)))))
theorem bd_is_row (z_isinstance : mg "isinstance" = none) (z_tuple : mg "tuple" = none) (z_len : mg "len" = none) (C_is_pane : Cal P w K mg base 3 "is_pane" (spF xi (List.replicate 1 (mP K)) [] (mP K) fn_is_pane) []) (z_all : mg "all" = none) (C_is_number : Cal P w K mg base 1 "is_number" (spF xi (List.replicate 1 (mP K)) [] (mP K) fn_is_number) []) (g_WALLS : GlK K mg "WALLS" (.tuple [(.int (-1)), (.int 0), (.int 1)])) : ∀ vs : List V, vs.length = 1 → Bd P w K mg base ["thing", "panes", "wall", "pane"] "is_row" (defScope s_is_row) (defBody s_is_row) 3 xi (List.replicate 1 (mP K)) [] (mP K) den_is_row vs
  | [v0], _ => bd_of (om := []) (ms := [mP K, mP K, mP K, mP K]) (ms' := [mP K, mP K, mP K, mP K]) (fun f cdv A outer s H E c =>
  (jss_cons (js_if (ms' := [mP _, mP _, mP _, mP _]) ((jw_or (jt_not ((je_isi "tuple" ((je_var 0)).jv z_isinstance z_tuple rfl)).jb.jt) (jw_or1 ((jb_cmp (op_neD (room_u c.room)) s_ne ((je_callB call_lenA c_len z_len PySem.boot_len (ja_cons ((je_var 0)).jv ja_nil))).jv (je_int).jv)).jt))).jt (jss_one (js_ret je_bl)) jss_nil)
  (jss_cons (js_asg (je_var 0) (jg_sq c.calm (jgs_cons (jg_name 1 c.nd) (jgs_cons (jg_name 2 c.nd) jgs_nil))))
  (jss_cons (js_if (ms' := [mP _, mP _, mP _, mP _]) ((jw_or (jt_not ((je_isi "tuple" ((je_var 1)).jv z_isinstance z_tuple rfl)).jb.jt) (jw_or1 (jt_not ((je_callB (cr_all c.calm) c_all z_all rfl (ja_cons ((je_frz (je_lc (own := [("pane", 3)]) c (ji_sq (je_var 1)) (by kernel_rfl) (by intro i hi; simp only [List.map, List.mem_cons, List.not_mem_nil, or_false] at hi; rcases hi with rfl <;> rfl) (by intro i hi; simp only [List.append_nil, List.cons_append, List.nil_append, List.map, List.mem_cons, List.not_mem_nil, or_false] at hi ⊢; omega) (fun _ _ _ _ _ => (jg_name 3 c.blk.nd)) (fun _ _ _ _ _ => jts_nil) (fun _ _ _ _ _ => (je_call (dds := []) c.blk C_is_pane (argOk0 1) (fun _ => .nil) (ja_cons ((je_var 3)).jv ja_nil)))))).jv ja_nil))).jb.jt)))).jt (jss_one (js_ret je_bl)) jss_nil)
  (jss_one (js_ret (je_and (je_call (dds := []) c C_is_number (argOk0 1) (fun _ => .nil) (ja_cons ((je_var 2)).jv ja_nil)) (je_one ((jb_cmp op_in_seq s_in ((je_var 2)).jv ((je_gl g_WALLS)).jv)).je))))))))
theorem bd_filled (z_list : mg "list" = none) (g_NOUGHT : GlK K mg "NOUGHT" (.tuple [(.int 0), (.int 1)])) : ∀ vs : List V, vs.length = 2 → Bd P w K mg base ["some", "many"] "filled" (defScope s_filled) (defBody s_filled) 0 xi (List.replicate 2 (mP K)) [] (mL K) den_filled vs
  | [v0, v1], _ => bd_ofR (om := []) (ms := [mP K, mP K]) (ms' := [mP K, mP K]) (fun f cdv A outer s H E c =>
  (jss_one (js_ret (je_slL ((je_op op_addA s_add ((je_frz (je_callTL call_list_of c_list z_list rfl (ja_cons ((je_var 0)).jv ja_nil)))).jv ((je_op op_mulA s_mul ((je_frz (je_lstL (ja_cons ((je_gl g_NOUGHT)).jv ja_nil)))).jv ((je_var 1)).jv)).jv)).jv jo_none (jo_some (je_var 1)))))) nn_ret
theorem bd_later (C_filled : Cal P w K mg base 1 "filled" (spF xi (List.replicate 2 (mP K)) [] (mL K) fn_filled) []) (g_NOUGHT : GlK K mg "NOUGHT" (.tuple [(.int 0), (.int 1)])) (z_list : mg "list" = none) (C_times : Cal P w K mg base 3 "times" (spF xi (List.replicate 2 (mP K)) [] (mP K) fn_times) []) (C_quotient_to : Cal P w K mg base 4 "quotient_to" (spF xi (List.replicate 3 (mP K)) [] (mL K) fn_quotient_to) []) (g_ONE : GlK K mg "ONE" (.tuple [(.int 1), (.int 1)])) : ∀ vs : List V, vs.length = 3 → Bd P w K mg base ["pane", "behind", "many", "ahead", "one", "shared"] "later" (defScope s_later) (defBody s_later) 4 xi (List.replicate 3 (mP K)) [] (mL K) den_later vs
  | [v0, v1, v2], _ => bd_ofR (om := []) (ms := [mP K, mP K, mP K, mP K, mP K, mP K]) (ms' := [mP K, mP K, mP K, mP K, mP K, mL K]) (fun f cdv A outer s H E c =>
  (jss_cons (js_set 3 (je_frz (je_call (dds := []) c C_filled (argOk0 2) (fun _ => .nil) (ja_cons ((je_op op_addA s_add ((je_frz (je_lstL (ja_cons ((je_gl g_NOUGHT)).jv ja_nil)))).jv ((je_frz (je_callTL call_list_of c_list z_list rfl (ja_cons ((je_var 1)).jv ja_nil)))).jv)).jv (ja_cons ((je_var 2)).jv ja_nil)))) c.nd)
  (jss_cons (js_setLc (i := 5) (own := [("one", 4)]) c (ji_sq (je_var 3)) (by kernel_rfl) (by intro i hi; simp only [List.map, List.mem_cons, List.not_mem_nil, or_false] at hi; rcases hi with rfl <;> rfl) (by intro i hi; simp only [List.append_nil, List.cons_append, List.nil_append, List.map, List.mem_cons, List.not_mem_nil, or_false] at hi ⊢; omega) (fun _ _ _ _ _ => (jg_name 4 c.blk.nd)) (fun _ _ _ _ _ => jts_nil) (fun _ _ _ _ _ => (je_call (dds := []) c.blk C_times (argOk0 2) (fun _ => .nil) (ja_cons ((je_var 0)).jv (ja_cons ((je_var 4)).jv ja_nil)))) (by exact sw_true rfl rfl rfl (by decide +kernel)))
  (jss_one (js_ret (je_call (dds := []) c C_quotient_to (argOk0 3) (fun _ => .nil) (ja_cons ((je_op op_addA s_add ((je_frz (je_lstL (ja_cons ((je_var 0)).jv ja_nil)))).jv ((je_sl ((je_var 3)).jv (jo_some je_int) jo_none)).jv)).jv (ja_cons ((je_op op_addA s_add ((je_frz (je_lstL (ja_cons ((je_gl g_ONE)).jv ja_nil)))).jv ((je_sl (jv_slot 5) (jo_some je_int) jo_none)).jv)).jv (ja_cons ((je_var 2)).jv ja_nil))))))))) (nn_seq (nn_seq nn_ret))
theorem bd_echo (C_filled : Cal P w K mg base 1 "filled" (spF xi (List.replicate 2 (mP K)) [] (mL K) fn_filled) []) (C_later : Cal P w K mg base 5 "later" (spF xi (List.replicate 3 (mP K)) [] (mL K) fn_later) []) : ∀ vs : List V, vs.length = 2 → Bd P w K mg base ["row", "many", "panes", "wall", "found", "pane"] "echo" (defScope s_echo) (defBody s_echo) 5 xi (List.replicate 2 (mP K)) [] (mL K) den_echo vs
  | [v0, v1], _ => bd_ofR (om := []) (ms := [mP K, mP K, mP K, mP K, mP K, mP K]) (ms' := [mP K, mP K, mP K, mP K, mL K, mP K]) (fun f cdv A outer s H E c =>
  (jss_cons (js_asg (je_var 0) (jg_sq c.calm (jgs_cons (jg_name 2 c.nd) (jgs_cons (jg_name 3 c.nd) jgs_nil))))
  (jss_cons (js_set 4 (je_call (dds := []) c C_filled (argOk0 2) (fun _ => .nil) (ja_cons ((je_frz (je_lstL (ja_cons ((je_tup (ja_cons ((je_var 3)).jv (ja_cons (je_int).jv ja_nil)))).jv ja_nil)))).jv (ja_cons ((je_var 1)).jv ja_nil))) c.nd)
  (jss_cons (js_for c.calm pas_of (ji_sq (je_rev (je_var 2))) (jg_name 5 c.nd) (jss_frz 4 rfl (jss_one (js_set 4 (je_call (dds := []) c C_later (argOk0 3) (fun _ => .nil) (ja_cons ((je_var 5)).jv (ja_cons ((je_var 4)).jv (ja_cons ((je_var 1)).jv ja_nil)))) c.nd))))
  (jss_one (js_retL 4)))))) (nn_seq (nn_seq (nn_seq nn_retS)))
theorem bd_shows_row (C_is_row : Cal P w K mg base 4 "is_row" (spF xi (List.replicate 1 (mP K)) [] (mP K) fn_is_row) []) (C_echo : Cal P w K mg base 6 "echo" (spF xi (List.replicate 2 (mP K)) [] (mL K) fn_echo) []) (z_len : mg "len" = none) (z_list : mg "list" = none) : ∀ vs : List V, vs.length = 2 → Bd P w K mg base ["echoes", "thing"] "shows_row" (defScope s_shows_row) (defBody s_shows_row) 6 xi (List.replicate 2 (mP K)) [] (mP K) den_shows_row vs
  | [v0, v1], _ => bd_of (om := []) (ms := [mP K, mP K]) (ms' := [mP K, mP K]) (fun f cdv A outer s H E c =>
  (jss_one (js_ret (je_and (je_call (dds := []) c C_is_row (argOk0 1) (fun _ => .nil) (ja_cons ((je_var 1)).jv ja_nil)) (je_one ((jb_cmp (op_eqD (room_u c.room)) s_eq ((je_frz (je_call (dds := []) c C_echo (argOk0 2) (fun _ => .nil) (ja_cons ((je_var 1)).jv (ja_cons ((je_callB call_lenA c_len z_len PySem.boot_len (ja_cons ((je_var 0)).jv ja_nil))).jv ja_nil))))).jv ((je_frz (je_callTL call_list_of c_list z_list rfl (ja_cons ((je_var 0)).jv ja_nil)))).jv)).je)))))
theorem bd__law_cell_at (z_len : mg "len" = none) : ∀ vs : List V, vs.length = 2 → Bd P w K mg base ["_law_script", "_law_k"] "_law_cell_at" (defScope s__law_cell_at) (defBody s__law_cell_at) 0 xi (mS K :: List.replicate 1 (mP K)) [] (mP K) den_law_cell_at vs
  | [v0, v1], _ => bd_of (om := []) (ms := [mS K, mP K]) (ms' := [mS K, mP K]) (fun f cdv A outer s H E c =>
  (jss_cons (js_if (ms' := [mS _, mP _]) ((jb_cmp op_lt s_cmp ((je_var 1)).jv ((je_lenS 0 z_len)).jv)).jt (jss_one (js_ret (je_ixS 0 (je_var 1)))) jss_nil)
  (jss_one (js_ret je_int))))
theorem bd__law_box (C__law_cell_at : Cal P w K mg base 1 "_law_cell_at" (spF xi (mS K :: List.replicate 1 (mP K)) [] (mP K) fn_law_cell_at) []) (z_abs : mg "abs" = none) (z_int : mg "int" = none) : ∀ vs : List V, vs.length = 2 → Bd P w K mg base ["_law_script", "_law_k", "_law_core"] "_law_box" (defScope s__law_box) (defBody s__law_box) 1 xi (mS K :: List.replicate 1 (mP K)) [] (mL K) den_law_box vs
  | [v0, v1], _ => bd_ofR (om := []) (ms := [mS K, mP K, mP K]) (ms' := [mS K, mP K, mP K]) (fun f cdv A outer s H E c =>
  (jss_cons (js_set 2 (je_call (dds := []) c C__law_cell_at (argOkS 0 1 rfl sub_refl nofp_S) (fun _ => .nil) (ja_cons (jv_slot 0) (ja_cons ((je_var 1)).jv ja_nil))) c.nd)
  (jss_one (js_ret (je_lstL (ja_cons ((je_op op_mulA s_mul ((je_callB call_abs c_abs z_abs rfl (ja_cons ((je_var 2)).jv ja_nil))).jv ((je_callT call_int1 c_int z_int rfl (ja_cons (((jb_cmp op_ge s_cmp ((je_callB call_abs c_abs z_abs rfl (ja_cons ((je_var 2)).jv ja_nil))).jv ((je_op op_pow s_pow (je_int).jv (je_int).jv)).jv)).je).jv ja_nil))).jv)).jv (ja_cons ((je_op op_addA s_add ((je_op op_addA s_add ((je_op op_modN s_mod ((je_var 2)).jv (je_int).jv)).jv ((je_op op_mulA s_mul (je_int).jv ((je_var 1)).jv)).jv)).jv (je_int).jv)).jv (ja_cons (je_int).jv ja_nil)))))))) (nn_seq nn_ret)
theorem bd__law_take  : ∀ vs : List V, vs.length = 2 → Bd P w K mg base ["_law_box_here", "_law_size", "_law_found", "_law_once", "_law_twice"] "_law_take" (defScope s__law_take) (defBody s__law_take) 0 xi (mL K :: List.replicate 1 (mP K)) [0] (mP K) den_law_take vs
  | [v0, v1], _ => bd_of (om := [(0, v0, mL K)]) (ms := [mAt v0 (mL K), mP K, mP K, mP K, mP K]) (ms' := [mAt v0 (mL K), mP K, mP K, mP K, mP K]) (fun f cdv A outer s H E c =>
  (jss_cons (js_if (ms' := [mAt v0 (mL _), mP _, mP _, mP _, mP _]) ((jb_cmp op_gt s_cmp ((je_ix (jv_slot 0) (je_int).jv)).jv (je_int).jv)).jt (jss_cons (js_set 2 (je_op op_modN s_mod ((je_ix (jv_slot 0) (je_int).jv)).jv ((je_var 1)).jv) c.nd)
  (jss_cons (js_setIx 0 (je_op op_fdivX s_div ((je_ix (jv_slot 0) (je_int).jv)).jv ((je_var 1)).jv) je_int lo_At)
  (jss_one (js_ret (je_var 2))))) jss_nil)
  (jss_cons (js_setIx 0 (je_op op_addA s_add ((je_ix (jv_slot 0) (je_int).jv)).jv (je_int).jv) je_int lo_At)
  (jss_cons (js_set 3 (je_op op_modN s_mod ((je_op op_mulA s_mul ((je_op op_addA s_add ((je_ix (jv_slot 0) (je_int).jv)).jv ((je_op op_mulA s_mul (je_int).jv ((je_ix (jv_slot 0) (je_int).jv)).jv)).jv)).jv ((je_op op_addA s_add (je_int).jv ((je_ix (jv_slot 0) (je_int).jv)).jv)).jv)).jv (je_int).jv) c.nd)
  (jss_cons (js_set 4 (je_op op_modN s_mod ((je_op op_mulA s_mul ((je_op op_addA s_add ((je_op op_addA s_add ((je_var 3)).jv ((je_ix (jv_slot 0) (je_int).jv)).jv)).jv ((je_op op_fdivX s_div ((je_ix (jv_slot 0) (je_int).jv)).jv (je_int).jv)).jv)).jv ((je_op op_addA s_add ((je_op op_modN s_mod ((je_var 3)).jv (je_int).jv)).jv (je_int).jv)).jv)).jv (je_int).jv) c.nd)
  (jss_one (js_ret (je_op op_modN s_mod ((je_op op_fdivX s_div ((je_op op_modN s_mod ((je_op op_addA s_add ((je_op op_mulA s_mul ((je_var 4)).jv (je_int).jv)).jv ((je_var 3)).jv)).jv (je_int).jv)).jv (je_int).jv)).jv ((je_var 1)).jv))))))))
theorem bd__law_of (C__law_take : Cal P w K mg base 1 "_law_take" (spF xi (mL K :: List.replicate 1 (mP K)) [0] (mP K) fn_law_take) []) (z_len : mg "len" = none) : ∀ vs : List V, vs.length = 2 → Bd P w K mg base ["_law_box_here", "_law_some"] "_law_of" (defScope s__law_of) (defBody s__law_of) 1 xi (mL K :: List.replicate 1 (mP K)) [0] (mP K) den_law_of vs
  | [v0, v1], _ => bd_of (om := [(0, v0, mL K)]) (ms := [mAt v0 (mL K), mP K]) (ms' := [mAt v0 (mL K), mP K]) (fun f cdv A outer s H E c =>
  (jss_one (js_ret (je_ix ((je_var 1)).jv ((je_call (dds := []) c C__law_take (argOk1 0 1 rfl sub_at) (fun _ => .nil) (ja_cons (jv_slot 0) (ja_cons ((je_callB call_lenA c_len z_len PySem.boot_len (ja_cons ((je_var 1)).jv ja_nil))).jv ja_nil)))).jv))))
theorem bd__law_same {n j : Nat} (hj : 0 ≤ j) (z_isinstance : mg "isinstance" = none) (z_dict : mg "dict" = none) (z_list : mg "list" = none) (z_tuple : mg "tuple" = none) (z_len : mg "len" = none) (z_zip : mg "zip" = none) (C__law_same : Cal P w K mg base j "_law_same" (spF xi (List.replicate 2 (mP K)) [] (mP K) (fn_law_same n)) []) (z_all : mg "all" = none) (z_bool : mg "bool" = none) (z_str : mg "str" = none) (z_int : mg "int" = none) : ∀ vs : List V, vs.length = 2 → Bd P w K mg base ["_law_found", "_law_due", "_law_key", "_law_one", "_law_two"] "_law_same" (defScope s__law_same) (defBody s__law_same) j xi (List.replicate 2 (mP K)) [] (mP K) (den_law_same (fn_law_same n)) vs
  | [v0, v1], _ => bd_of (om := []) (ms := [mP K, mP K, mP K, mP K, mP K]) (ms' := [mP K, mP K, mP K, mP K, mP K]) (fun f cdv A outer s H E c =>
  (jss_cons (js_if (ms' := [mP _, mP _, mP _, mP _, mP _]) ((je_isi "dict" ((je_var 1)).jv z_isinstance z_dict rfl)).jb.jt jss_never jss_nil)
  (jss_cons (js_if (ms' := [mP _, mP _, mP _, mP _, mP _]) ((je_isi2 "list" "tuple" ((je_var 1)).jv z_isinstance z_list z_tuple rfl rfl)).jb.jt (jss_cons (js_if (ms' := [mP _, mP _, mP _, mP _, mP _]) ((jw_or ((jb_cmp (op_neD (room_u c.room)) s_ne ((je_isi "list" ((je_var 0)).jv z_isinstance z_list rfl)).jv ((je_isi "list" ((je_var 1)).jv z_isinstance z_list rfl)).jv)).jt (jw_or1 ((jb_cmp (op_neD (room_u c.room)) s_ne ((je_isi "tuple" ((je_var 0)).jv z_isinstance z_tuple rfl)).jv ((je_isi "tuple" ((je_var 1)).jv z_isinstance z_tuple rfl)).jv)).jt))).jt (jss_one (js_ret je_bl)) jss_nil)
  (jss_one (js_ret (je_and ((jb_cmp (op_eqD (room_u c.room)) s_eq ((je_callB call_lenA c_len z_len PySem.boot_len (ja_cons ((je_var 0)).jv ja_nil))).jv ((je_callB call_lenA c_len z_len PySem.boot_len (ja_cons ((je_var 1)).jv ja_nil))).jv)).je (je_one (je_callB (cr_all c.calm) c_all z_all rfl (ja_cons ((je_frz (je_lc (own := [("_law_one", 3), ("_law_two", 4)]) c (ji_zipM z_zip (ja_cons ((je_var 0)).jv (ja_cons ((je_var 1)).jv ja_nil))) (by kernel_rfl) (by intro i hi; simp only [List.map, List.mem_cons, List.not_mem_nil, or_false] at hi; rcases hi with rfl | rfl <;> rfl) (by intro i hi; simp only [List.append_nil, List.cons_append, List.nil_append, List.map, List.mem_cons, List.not_mem_nil, or_false] at hi ⊢; omega) (fun _ _ _ _ _ => (jg_sq c.blk.calm (jgs_cons (jg_name 3 c.blk.nd) (jgs_cons (jg_name 4 c.blk.nd) jgs_nil)))) (fun _ _ _ _ _ => jts_nil) (fun _ _ _ _ _ => (je_call (dds := []) c.blk C__law_same (argOk0 2) (fun _ => .nil) (ja_cons ((je_var 3)).jv (ja_cons ((je_var 4)).jv ja_nil))))))).jv ja_nil))))))) jss_nil)
  (jss_cons (js_if (ms' := [mP _, mP _, mP _, mP _, mP _]) ((jw_or ((jb_cmp op_isA s_is ((je_var 1)).jv (je_non).jv)).jt (jw_or1 ((je_isi2 "bool" "str" ((je_var 1)).jv z_isinstance z_bool z_str rfl rfl)).jb.jt))).jt (jss_one (js_ret (je_and ((jb_cmp (op_eqD (room_u c.room)) s_eq ((je_var 0)).jv ((je_var 1)).jv)).je (je_and ((jb_cmp (op_eqD (room_u c.room)) s_eq ((je_isi "bool" ((je_var 0)).jv z_isinstance z_bool rfl)).jv ((je_isi "bool" ((je_var 1)).jv z_isinstance z_bool rfl)).jv)).je (je_one ((jb_cmp (op_eqD (room_u c.room)) s_eq (((jb_cmp op_isA s_is ((je_var 0)).jv (je_non).jv)).je).jv (((jb_cmp op_isA s_is ((je_var 1)).jv (je_non).jv)).je).jv)).je))))) jss_nil)
  (jss_one (js_ret (je_and (je_isi "int" ((je_var 0)).jv z_isinstance z_int rfl) (je_and (je_not (je_isi "bool" ((je_var 0)).jv z_isinstance z_bool rfl)) (je_one ((jb_cmp (op_eqD (room_u c.room)) s_eq ((je_var 0)).jv ((je_var 1)).jv)).je)))))))))
theorem bd__law_frac (z_abs : mg "abs" = none) : ∀ vs : List V, vs.length = 2 → Bd P w K mg base ["_law_top", "_law_under", "_law_big", "_law_small", "_law_sign"] "_law_frac" (defScope s__law_frac) (defBody s__law_frac) 0 xi (List.replicate 2 (mP K)) [] (mP K) den_law_frac vs
  | [v0, v1], _ => bd_of (om := []) (ms := [mP K, mP K, mP K, mP K, mP K]) (ms' := [mP K, mP K, mP K, mP K, mP K]) (fun f cdv A outer s H E c =>
  (jss_cons (js_par 2 3 c.calm c.nd (je_callB call_abs c_abs z_abs rfl (ja_cons ((je_var 0)).jv ja_nil)) (je_callB call_abs c_abs z_abs rfl (ja_cons ((je_var 1)).jv ja_nil)))
  (jss_cons (js_while 100000000 pas_of ((jb_cmp op_gt s_cmp ((je_var 3)).jv (je_int).jv)).jt (jss_one (js_par 2 3 c.calm c.nd (je_var 3) (je_op op_modN s_mod ((je_var 2)).jv ((je_var 3)).jv))))
  (jss_cons (js_set 4 (je_if ((jb_cmp op_gt s_cmp ((je_var 1)).jv (je_int).jv)).jt je_int (je_neg je_int)) c.nd)
  (jss_one (js_ret (je_tup (ja_cons ((je_op op_fdivX s_div ((je_op op_mulA s_mul ((je_var 4)).jv ((je_var 0)).jv)).jv ((je_var 2)).jv)).jv (ja_cons ((je_op op_fdivX s_div ((je_callB call_abs c_abs z_abs rfl (ja_cons ((je_var 1)).jv ja_nil))).jv ((je_var 2)).jv)).jv ja_nil)))))))))
theorem bd__law_plus (C__law_frac : Cal P w K mg base 1 "_law_frac" (spF xi (List.replicate 2 (mP K)) [] (mP K) fn_law_frac) []) : ∀ vs : List V, vs.length = 2 → Bd P w K mg base ["_law_one", "_law_other"] "_law_plus" (defScope s__law_plus) (defBody s__law_plus) 1 xi (List.replicate 2 (mP K)) [] (mP K) den_law_plus vs
  | [v0, v1], _ => bd_of (om := []) (ms := [mP K, mP K]) (ms' := [mP K, mP K]) (fun f cdv A outer s H E c =>
  (jss_one (js_ret (je_call (dds := []) c C__law_frac (argOk0 2) (fun _ => .nil) (ja_cons ((je_op op_addA s_add ((je_op op_mulA s_mul ((je_ix ((je_var 0)).jv (je_int).jv)).jv ((je_ix ((je_var 1)).jv (je_int).jv)).jv)).jv ((je_op op_mulA s_mul ((je_ix ((je_var 1)).jv (je_int).jv)).jv ((je_ix ((je_var 0)).jv (je_int).jv)).jv)).jv)).jv (ja_cons ((je_op op_mulA s_mul ((je_ix ((je_var 0)).jv (je_int).jv)).jv ((je_ix ((je_var 1)).jv (je_int).jv)).jv)).jv ja_nil))))))
theorem bd__law_less (C__law_frac : Cal P w K mg base 1 "_law_frac" (spF xi (List.replicate 2 (mP K)) [] (mP K) fn_law_frac) []) : ∀ vs : List V, vs.length = 2 → Bd P w K mg base ["_law_one", "_law_other"] "_law_less" (defScope s__law_less) (defBody s__law_less) 1 xi (List.replicate 2 (mP K)) [] (mP K) den_law_less vs
  | [v0, v1], _ => bd_of (om := []) (ms := [mP K, mP K]) (ms' := [mP K, mP K]) (fun f cdv A outer s H E c =>
  (jss_one (js_ret (je_call (dds := []) c C__law_frac (argOk0 2) (fun _ => .nil) (ja_cons ((je_op op_sub s_sub ((je_op op_mulA s_mul ((je_ix ((je_var 0)).jv (je_int).jv)).jv ((je_ix ((je_var 1)).jv (je_int).jv)).jv)).jv ((je_op op_mulA s_mul ((je_ix ((je_var 1)).jv (je_int).jv)).jv ((je_ix ((je_var 0)).jv (je_int).jv)).jv)).jv)).jv (ja_cons ((je_op op_mulA s_mul ((je_ix ((je_var 0)).jv (je_int).jv)).jv ((je_ix ((je_var 1)).jv (je_int).jv)).jv)).jv ja_nil))))))
theorem bd__law_times (C__law_frac : Cal P w K mg base 1 "_law_frac" (spF xi (List.replicate 2 (mP K)) [] (mP K) fn_law_frac) []) : ∀ vs : List V, vs.length = 2 → Bd P w K mg base ["_law_one", "_law_other"] "_law_times" (defScope s__law_times) (defBody s__law_times) 1 xi (List.replicate 2 (mP K)) [] (mP K) den_law_times vs
  | [v0, v1], _ => bd_of (om := []) (ms := [mP K, mP K]) (ms' := [mP K, mP K]) (fun f cdv A outer s H E c =>
  (jss_one (js_ret (je_call (dds := []) c C__law_frac (argOk0 2) (fun _ => .nil) (ja_cons ((je_op op_mulA s_mul ((je_ix ((je_var 0)).jv (je_int).jv)).jv ((je_ix ((je_var 1)).jv (je_int).jv)).jv)).jv (ja_cons ((je_op op_mulA s_mul ((je_ix ((je_var 0)).jv (je_int).jv)).jv ((je_ix ((je_var 1)).jv (je_int).jv)).jv)).jv ja_nil))))))
theorem bd__law_pane (C__law_take : Cal P w K mg base 1 "_law_take" (spF xi (mL K :: List.replicate 1 (mP K)) [0] (mP K) fn_law_take) []) (C__law_frac : Cal P w K mg base 1 "_law_frac" (spF xi (List.replicate 2 (mP K)) [] (mP K) fn_law_frac) []) (C__law_of : Cal P w K mg base 2 "_law_of" (spF xi (mL K :: List.replicate 1 (mP K)) [0] (mP K) fn_law_of) []) : ∀ vs : List V, vs.length = 1 → Bd P w K mg base ["_law_box_here", "_law_under", "_law_any_one"] "_law_pane" (defScope s__law_pane) (defBody s__law_pane) 2 xi (mL K :: List.replicate 0 (mP K)) [0] (mP K) den_law_pane_v2 vs
  | [v0], _ => bd_of (om := [(0, v0, mL K)]) (ms := [mAt v0 (mL K), mP K, mP K]) (ms' := [mAt v0 (mL K), mP K, mP K]) (fun f cdv A outer s H E c =>
  (jss_cons (js_set 1 (je_op op_addA s_add (je_int).jv ((je_call (dds := []) c C__law_take (argOk1 0 1 rfl sub_at) (fun _ => .nil) (ja_cons (jv_slot 0) (ja_cons ((je_ix ((je_frz (je_lstL (ja_cons (je_int).jv (ja_cons (je_int).jv (ja_cons (je_int).jv ja_nil)))))).jv ((je_call (dds := []) c C__law_take (argOk1 0 1 rfl sub_at) (fun _ => .nil) (ja_cons (jv_slot 0) (ja_cons (je_int).jv ja_nil)))).jv)).jv ja_nil)))).jv) c.nd)
  (jss_cons (js_set 2 (je_call (dds := []) c C__law_frac (argOk0 2) (fun _ => .nil) (ja_cons ((je_op op_addA s_add ((je_op op_sub s_sub ((je_call (dds := []) c C__law_take (argOk1 0 1 rfl sub_at) (fun _ => .nil) (ja_cons (jv_slot 0) (ja_cons ((je_op op_sub s_sub ((je_op op_mulA s_mul (je_int).jv ((je_var 1)).jv)).jv (je_int).jv)).jv ja_nil)))).jv ((je_var 1)).jv)).jv (je_int).jv)).jv (ja_cons ((je_var 1)).jv ja_nil))) c.nd)
  (jss_one (js_ret (je_call (dds := []) c C__law_of (argOk1 0 1 rfl sub_at) (fun _ => .nil) (ja_cons (jv_slot 0) (ja_cons ((je_frz (je_lstL (ja_cons ((je_var 2)).jv (ja_cons ((je_var 2)).jv (ja_cons ((je_var 2)).jv (ja_cons ((je_tup (ja_cons (je_int).jv (ja_cons (je_int).jv ja_nil)))).jv (ja_cons ((je_tup (ja_cons ((je_neg je_int)).jv (ja_cons (je_int).jv ja_nil)))).jv (ja_cons ((je_tup (ja_cons (je_int).jv (ja_cons (je_int).jv ja_nil)))).jv (ja_cons ((je_tup (ja_cons (je_int).jv (ja_cons (je_int).jv ja_nil)))).jv (ja_cons ((je_tup (ja_cons ((je_op op_sub s_sub (je_int).jv ((je_var 1)).jv)).jv (ja_cons ((je_var 1)).jv ja_nil)))).jv ja_nil))))))))))).jv ja_nil))))))))
theorem bd__law_row (C__law_take : Cal P w K mg base 1 "_law_take" (spF xi (mL K :: List.replicate 1 (mP K)) [0] (mP K) fn_law_take) []) (z_range : mg "range" = none) (C__law_pane : Cal P w K mg base 3 "_law_pane" (spF xi (mL K :: List.replicate 0 (mP K)) [0] (mP K) fn_law_pane_v2) []) (z_tuple : mg "tuple" = none) (C__law_of : Cal P w K mg base 2 "_law_of" (spF xi (mL K :: List.replicate 1 (mP K)) [0] (mP K) fn_law_of) []) : ∀ vs : List V, vs.length = 2 → Bd P w K mg base ["_law_box_here", "_law_most", "_law_turn", "_law_panes"] "_law_row" (defScope s__law_row) (defBody s__law_row) 3 xi (mL K :: List.replicate 1 (mP K)) [0] (mP K) den_law_row vs
  | [v0, v1], _ => bd_of (om := [(0, v0, mL K)]) (ms := [mAt v0 (mL K), mP K, mP K, mP K]) (ms' := [mAt v0 (mL K), mP K, mP K, mP K]) (fun f cdv A outer s H E c =>
  (jss_cons (js_set 3 (je_callT call_tuple_of c_tuple z_tuple rfl (ja_cons ((je_frz (je_lc (own := [("_law_turn", 2)]) c (ji_range1 z_range (ja_cons ((je_call (dds := []) c C__law_take (argOk1 0 1 rfl sub_at) (fun _ => .nil) (ja_cons (jv_slot 0) (ja_cons ((je_op op_addA s_add ((je_var 1)).jv (je_int).jv)).jv ja_nil)))).jv ja_nil)) (by kernel_rfl) (by intro i hi; simp only [List.map, List.mem_cons, List.not_mem_nil, or_false] at hi; rcases hi with rfl <;> rfl) (by intro i hi; simp only [List.append_nil, List.cons_append, List.nil_append, List.map, List.mem_cons, List.not_mem_nil, or_false] at hi ⊢; omega) (fun _ _ _ _ _ => (jg_name 2 c.blk.nd)) (fun _ _ _ _ _ => jts_nil) (fun _ _ _ _ _ => (je_call (dds := []) c.blk C__law_pane (argOk1 0 0 rfl sub_at) (fun _ => .nil) (ja_cons (jv_slot 0) ja_nil)))))).jv ja_nil)) c.nd)
  (jss_one (js_ret (je_tup (ja_cons ((je_var 3)).jv (ja_cons ((je_call (dds := []) c C__law_of (argOk1 0 1 rfl sub_at) (fun _ => .nil) (ja_cons (jv_slot 0) (ja_cons ((je_frz (je_lstL (ja_cons (je_int).jv (ja_cons (je_int).jv (ja_cons (je_int).jv (ja_cons (je_int).jv (ja_cons (je_int).jv (ja_cons ((je_neg je_int)).jv ja_nil))))))))).jv ja_nil)))).jv ja_nil)))))))
theorem bd__law_met (C__law_plus : Cal P w K mg base 2 "_law_plus" (spF xi (List.replicate 2 (mP K)) [] (mP K) fn_law_plus) []) (C__law_times : Cal P w K mg base 2 "_law_times" (spF xi (List.replicate 2 (mP K)) [] (mP K) fn_law_times) []) (C__law_less : Cal P w K mg base 2 "_law_less" (spF xi (List.replicate 2 (mP K)) [] (mP K) fn_law_less) []) : ∀ vs : List V, vs.length = 3 → Bd P w K mg base ["_law_pane_here", "_law_a", "_law_b", "_law_one", "_law_left"] "_law_met" (defScope s__law_met) (defBody s__law_met) 2 xi (List.replicate 3 (mP K)) [] (mP K) den_law_met vs
  | [v0, v1, v2], _ => bd_of (om := []) (ms := [mP K, mP K, mP K, mP K, mP K]) (ms' := [mP K, mP K, mP K, mP K, mP K]) (fun f cdv A outer s H E c =>
  (jss_cons (js_set 3 (je_tup (ja_cons (je_int).jv (ja_cons (je_int).jv ja_nil))) c.nd)
  (jss_cons (js_set 4 (je_call (dds := []) c C__law_plus (argOk0 2) (fun _ => .nil) (ja_cons ((je_call (dds := []) c C__law_times (argOk0 2) (fun _ => .nil) (ja_cons ((je_var 0)).jv (ja_cons ((je_var 1)).jv ja_nil)))).jv (ja_cons ((je_call (dds := []) c C__law_times (argOk0 2) (fun _ => .nil) (ja_cons ((je_call (dds := []) c C__law_less (argOk0 2) (fun _ => .nil) (ja_cons ((je_var 3)).jv (ja_cons ((je_var 0)).jv ja_nil)))).jv (ja_cons ((je_var 2)).jv ja_nil)))).jv ja_nil))) c.nd)
  (jss_one (js_ret (je_tup (ja_cons ((je_var 4)).jv (ja_cons ((je_call (dds := []) c C__law_less (argOk0 2) (fun _ => .nil) (ja_cons ((je_call (dds := []) c C__law_times (argOk0 2) (fun _ => .nil) (ja_cons ((je_call (dds := []) c C__law_plus (argOk0 2) (fun _ => .nil) (ja_cons ((je_var 3)).jv (ja_cons ((je_var 0)).jv ja_nil)))).jv (ja_cons ((je_var 1)).jv ja_nil)))).jv (ja_cons ((je_call (dds := []) c C__law_times (argOk0 2) (fun _ => .nil) (ja_cons ((je_var 0)).jv (ja_cons ((je_var 2)).jv ja_nil)))).jv ja_nil)))).jv ja_nil))))))))
theorem bd__law_beat (z_len : mg "len" = none) (z_list : mg "list" = none) (z_int : mg "int" = none) (C__law_times : Cal P w K mg base 2 "_law_times" (spF xi (List.replicate 2 (mP K)) [] (mP K) fn_law_times) []) (z_enumerate : mg "enumerate" = none) (C__law_met : Cal P w K mg base 3 "_law_met" (spF xi (List.replicate 3 (mP K)) [] (mP K) fn_law_met) []) (z_range : mg "range" = none) : ∀ vs : List V, vs.length = 3 → Bd P w K mg base ["_law_row_here", "_law_ways", "_law_cries", "_law_panes", "_law_shut", "_law_count", "_law_some", "_law_left", "_law_right_here", "_law_place", "_law_pane_here", "_law_room"] "_law_beat" (defScope s__law_beat) (defBody s__law_beat) 3 xi (List.replicate 3 (mP K)) [] (mP K) den_law_beat vs
  | [v0, v1, v2], _ => bd_of (om := []) (ms := [mP K, mP K, mP K, mP K, mP K, mP K, mP K, mP K, mP K, mP K, mP K, mP K]) (ms' := [mP K, mP K, mP K, mP K, mP K, mP K, mP K, mL K, mL K, mP K, mP K, mP K]) (fun f cdv A outer s H E c =>
  (jss_cons (js_asg (je_var 0) (jg_sq c.calm (jgs_cons (jg_name 3 c.nd) (jgs_cons (jg_name 4 c.nd) jgs_nil))))
  (jss_cons (js_par 5 6 c.calm c.nd (je_callB call_lenA c_len z_len PySem.boot_len (ja_cons ((je_var 3)).jv ja_nil)) (je_op op_addA s_add ((je_op op_addA s_add ((je_frz (je_lstL (ja_cons ((je_tup (ja_cons ((je_ix ((je_var 2)).jv (je_int).jv)).jv (ja_cons ((je_tup (ja_cons (je_int).jv (ja_cons (je_int).jv ja_nil)))).jv ja_nil)))).jv ja_nil)))).jv ((je_frz (je_callTL call_list_of c_list z_list rfl (ja_cons ((je_var 1)).jv ja_nil)))).jv)).jv ((je_op op_mulA s_mul ((je_frz (je_lstL (ja_cons ((je_tup (ja_cons ((je_tup (ja_cons (je_int).jv (ja_cons (je_int).jv ja_nil)))).jv (ja_cons ((je_ix ((je_var 2)).jv (je_int).jv)).jv ja_nil)))).jv ja_nil)))).jv ((je_callT call_int1 c_int z_int rfl (ja_cons (((jb_cmp (op_eqD (room_u c.room)) s_eq ((je_var 4)).jv (je_int).jv)).je).jv ja_nil))).jv)).jv))
  (jss_cons (js_if (ms' := [mP _, mP _, mP _, mP _, mP _, mP _, mP _, mP _, mP _, mP _, mP _, mP _]) ((jb_cmp (op_eqD (room_u c.room)) s_eq ((je_var 5)).jv (je_int).jv)).jt (jss_one (js_ret (je_if ((jb_cmp (op_neD (room_u c.room)) s_ne ((je_var 4)).jv (je_int).jv)).jt (je_tup (ja_cons ((je_frz (je_lstL ja_nil))).jv (ja_cons ((je_call (dds := []) c C__law_times (argOk0 2) (fun _ => .nil) (ja_cons ((je_tup (ja_cons ((je_var 4)).jv (ja_cons (je_int).jv ja_nil)))).jv (ja_cons ((je_ix ((je_var 2)).jv (je_int).jv)).jv ja_nil)))).jv (ja_cons ((je_tup (ja_cons (je_int).jv (ja_cons (je_int).jv ja_nil)))).jv ja_nil)))) (je_tup (ja_cons ((je_frz (je_lstL ja_nil))).jv (ja_cons ((je_ix ((je_var 2)).jv (je_int).jv)).jv (ja_cons ((je_ix ((je_var 2)).jv (je_int).jv)).jv ja_nil))))))) jss_nil)
  (jss_cons (js_set 7 (je_opL op_rep s_repL ((je_frz (je_lstL (ja_cons ((je_tup (ja_cons (je_int).jv (ja_cons (je_int).jv ja_nil)))).jv ja_nil)))).jv ((je_op op_addA s_add ((je_var 5)).jv (je_int).jv)).jv) c.nd)
  (jss_cons (js_set 8 (je_opL op_rep s_repL ((je_frz (je_lstL (ja_cons ((je_tup (ja_cons (je_int).jv (ja_cons (je_int).jv ja_nil)))).jv ja_nil)))).jv ((je_op op_addA s_add ((je_var 5)).jv (je_int).jv)).jv) c.nd)
  (jss_cons (js_for c.calm pas_of (ji_enM z_enumerate (ja_cons ((je_var 3)).jv ja_nil)) (jg_sq c.calm (jgs_cons (jg_name 9 c.nd) (jgs_cons (jg_name 10 c.nd) jgs_nil))) (jss_one (js_asg (je_call (dds := []) c C__law_met (argOk0 3) (fun _ => .nil) (ja_cons ((je_var 10)).jv (ja_cons ((je_ix ((je_ix ((je_var 6)).jv ((je_var 9)).jv)).jv (je_int).jv)).jv (ja_cons ((je_ix ((je_ix ((je_var 6)).jv ((je_op op_addA s_add ((je_var 9)).jv (je_int).jv)).jv)).jv (je_int).jv)).jv ja_nil)))) (jg_sq c.calm (jgs_cons (jg_ix 7 (je_var 9) lo_L) (jgs_cons (jg_ix 8 (je_op op_addA s_add ((je_var 9)).jv (je_int).jv) lo_L) jgs_nil))))))
  (jss_cons (js_if (ms' := [mP _, mP _, mP _, mP _, mP _, mP _, mP _, mL _, mL _, mP _, mP _, mP _]) ((jb_cmp (op_neD (room_u c.room)) s_ne ((je_var 4)).jv (je_int).jv)).jt (jss_cons (js_setIx 7 (je_call (dds := []) c C__law_times (argOk0 2) (fun _ => .nil) (ja_cons ((je_tup (ja_cons ((je_var 4)).jv (ja_cons (je_int).jv ja_nil)))).jv (ja_cons ((je_ix ((je_ix ((je_var 6)).jv ((je_var 5)).jv)).jv (je_int).jv)).jv ja_nil))) (je_var 5) lo_L)
  (jss_one (js_ret (je_tup (ja_cons ((je_frz (je_lc (own := [("_law_room", 11)]) c (ji_range2 z_range (ja_cons (je_int).jv (ja_cons ((je_op op_addA s_add ((je_var 5)).jv (je_int).jv)).jv ja_nil))) (by kernel_rfl) (by intro i hi; simp only [List.map, List.mem_cons, List.not_mem_nil, or_false] at hi; rcases hi with rfl <;> rfl) (by intro i hi; simp only [List.append_nil, List.cons_append, List.nil_append, List.map, List.mem_cons, List.not_mem_nil, or_false] at hi ⊢; omega) (fun _ _ _ _ _ => (jg_name 11 c.blk.nd)) (fun _ _ _ _ _ => jts_nil) (fun _ _ _ _ _ => (je_tup (ja_cons ((je_ix (jv_slot 8) ((je_var 11)).jv)).jv (ja_cons ((je_ix (jv_slot 7) ((je_var 11)).jv)).jv ja_nil))))))).jv (ja_cons ((je_ix (jv_slot 7) (je_int).jv)).jv (ja_cons ((je_tup (ja_cons (je_int).jv (ja_cons (je_int).jv ja_nil)))).jv ja_nil))))))) jss_nil)
  (jss_one (js_ret (je_tup (ja_cons ((je_frz (je_lc (own := [("_law_room", 11)]) c (ji_range2 z_range (ja_cons (je_int).jv (ja_cons ((je_var 5)).jv ja_nil))) (by kernel_rfl) (by intro i hi; simp only [List.map, List.mem_cons, List.not_mem_nil, or_false] at hi; rcases hi with rfl <;> rfl) (by intro i hi; simp only [List.append_nil, List.cons_append, List.nil_append, List.map, List.mem_cons, List.not_mem_nil, or_false] at hi ⊢; omega) (fun _ _ _ _ _ => (jg_name 11 c.blk.nd)) (fun _ _ _ _ _ => jts_nil) (fun _ _ _ _ _ => (je_tup (ja_cons ((je_ix (jv_slot 8) ((je_var 11)).jv)).jv (ja_cons ((je_ix (jv_slot 7) ((je_var 11)).jv)).jv ja_nil))))))).jv (ja_cons ((je_ix (jv_slot 7) (je_int).jv)).jv (ja_cons ((je_ix (jv_slot 8) ((je_var 5)).jv)).jv ja_nil))))))))))))))
theorem bd__law_heard (z_len : mg "len" = none) (z_int : mg "int" = none) (z_range : mg "range" = none) (C__law_beat : Cal P w K mg base 4 "_law_beat" (spF xi (List.replicate 3 (mP K)) [] (mP K) fn_law_beat) []) : ∀ vs : List V, vs.length = 3 → Bd P w K mg base ["_law_row_here", "_law_cries", "_law_many", "_law_ways", "_law_told", "_law_turn", "_law_pair", "_law_left", "_law_right_here"] "_law_heard" (defScope s__law_heard) (defBody s__law_heard) 4 xi (List.replicate 3 (mP K)) [] (mL K) den_law_heard vs
  | [v0, v1, v2], _ => bd_ofR (om := []) (ms := [mP K, mP K, mP K, mP K, mP K, mP K, mP K, mP K, mP K]) (ms' := [mP K, mP K, mP K, mP K, mL K, mP K, mP K, mP K, mP K]) (fun f cdv A outer s H E c =>
  (jss_cons (js_par 3 4 c.calm c.nd (je_op op_mulA s_mul ((je_frz (je_lstL (ja_cons ((je_tup (ja_cons ((je_tup (ja_cons (je_int).jv (ja_cons (je_int).jv ja_nil)))).jv (ja_cons ((je_tup (ja_cons (je_int).jv (ja_cons (je_int).jv ja_nil)))).jv ja_nil)))).jv ja_nil)))).jv ((je_op op_sub s_sub ((je_callB call_lenA c_len z_len PySem.boot_len (ja_cons ((je_ix ((je_var 0)).jv (je_int).jv)).jv ja_nil))).jv ((je_callT call_int1 c_int z_int rfl (ja_cons (((jb_cmp (op_eqD (room_u c.room)) s_eq ((je_ix ((je_var 0)).jv (je_int).jv)).jv (je_int).jv)).je).jv ja_nil))).jv)).jv) (je_lstL ja_nil))
  (jss_cons (js_for c.calm pas_of (ji_range1 z_range (ja_cons ((je_var 2)).jv ja_nil)) (jg_name 5 c.nd) (jss_cons (js_set 6 (je_if ((jb_cmp op_lt s_cmp ((je_var 5)).jv ((je_callB call_lenA c_len z_len PySem.boot_len (ja_cons ((je_var 1)).jv ja_nil))).jv)).jt (je_ix ((je_var 1)).jv ((je_var 5)).jv) (je_tup (ja_cons ((je_tup (ja_cons (je_int).jv (ja_cons (je_int).jv ja_nil)))).jv (ja_cons ((je_tup (ja_cons (je_int).jv (ja_cons (je_int).jv ja_nil)))).jv ja_nil)))) c.nd)
  (jss_cons (js_asg (je_call (dds := []) c C__law_beat (argOk0 3) (fun _ => .nil) (ja_cons ((je_var 0)).jv (ja_cons ((je_var 3)).jv (ja_cons ((je_var 6)).jv ja_nil)))) (jg_sq c.calm (jgs_cons (jg_name 3 c.nd) (jgs_cons (jg_name 7 c.nd) (jgs_cons (jg_name 8 c.nd) jgs_nil)))))
  (jss_one (js_append 4 (je_tup (ja_cons ((je_var 7)).jv (ja_cons ((je_var 8)).jv ja_nil))) lo_L)))))
  (jss_one (js_retL 4))))) (nn_seq (nn_seq nn_retS))
theorem bd__law_echo (C__law_heard : Cal P w K mg base 5 "_law_heard" (spF xi (List.replicate 3 (mP K)) [] (mL K) fn_law_heard) []) (z_range : mg "range" = none) : ∀ vs : List V, vs.length = 2 → Bd P w K mg base ["_law_row_here", "_law_many", "_law_told", "_law_turn"] "_law_echo" (defScope s__law_echo) (defBody s__law_echo) 5 xi (List.replicate 2 (mP K)) [] (mL K) den_law_echo vs
  | [v0, v1], _ => bd_ofR (om := []) (ms := [mP K, mP K, mP K, mP K]) (ms' := [mP K, mP K, mP K, mP K]) (fun f cdv A outer s H E c =>
  (jss_cons (js_if (ms' := [mP _, mP _, mP _, mP _]) ((jb_cmp (op_eqD (room_u c.room)) s_eq ((je_var 0)).jv ((je_tup (ja_cons ((je_tup ja_nil)).jv (ja_cons (je_int).jv ja_nil)))).jv)).jt (jss_one (js_ret (je_opL op_rep s_repL ((je_frz (je_lstL (ja_cons ((je_tup (ja_cons (je_int).jv (ja_cons (je_int).jv ja_nil)))).jv ja_nil)))).jv ((je_var 1)).jv))) jss_nil)
  (jss_cons (js_set 2 (je_frz (je_call (dds := []) c C__law_heard (argOk0 3) (fun _ => .nil) (ja_cons ((je_var 0)).jv (ja_cons ((je_frz (je_lstL (ja_cons ((je_tup (ja_cons ((je_tup (ja_cons (je_int).jv (ja_cons (je_int).jv ja_nil)))).jv (ja_cons ((je_tup (ja_cons (je_int).jv (ja_cons (je_int).jv ja_nil)))).jv ja_nil)))).jv ja_nil)))).jv (ja_cons ((je_op op_mulA s_mul (je_int).jv ((je_var 1)).jv)).jv ja_nil))))) c.nd)
  (jss_one (js_ret (je_lc (own := [("_law_turn", 3)]) c (ji_range1 z_range (ja_cons ((je_var 1)).jv ja_nil)) (by kernel_rfl) (by intro i hi; simp only [List.map, List.mem_cons, List.not_mem_nil, or_false] at hi; rcases hi with rfl <;> rfl) (by intro i hi; simp only [List.append_nil, List.cons_append, List.nil_append, List.map, List.mem_cons, List.not_mem_nil, or_false] at hi ⊢; omega) (fun _ _ _ _ _ => (jg_name 3 c.blk.nd)) (fun _ _ _ _ _ => jts_nil) (fun _ _ _ _ _ => (je_ix ((je_ix ((je_var 2)).jv ((je_op op_mulA s_mul (je_int).jv ((je_var 3)).jv)).jv)).jv (je_int).jv)))))))) (nn_seq (nn_seq nn_ret))
theorem bd__law_light_row (C__law_take : Cal P w K mg base 1 "_law_take" (spF xi (mL K :: List.replicate 1 (mP K)) [0] (mP K) fn_law_take) []) (C__law_row : Cal P w K mg base 4 "_law_row" (spF xi (mL K :: List.replicate 1 (mP K)) [0] (mP K) fn_law_row) []) (z_min : mg "min" = none) (z_range : mg "range" = none) (C__law_frac : Cal P w K mg base 1 "_law_frac" (spF xi (List.replicate 2 (mP K)) [] (mP K) fn_law_frac) []) (C__law_of : Cal P w K mg base 2 "_law_of" (spF xi (mL K :: List.replicate 1 (mP K)) [0] (mP K) fn_law_of) []) (z_tuple : mg "tuple" = none) : ∀ vs : List V, vs.length = 2 → Bd P w K mg base ["_law_box_here", "_law_most", "_law_panes", "_law_turn", "_law_under", "_law_any_one"] "_law_light_row" (defScope s__law_light_row) (defBody s__law_light_row) 4 xi (mL K :: List.replicate 1 (mP K)) [0] (mP K) den_law_light_row vs
  | [v0, v1], _ => bd_of (om := [(0, v0, mL K)]) (ms := [mAt v0 (mL K), mP K, mP K, mP K, mP K, mP K]) (ms' := [mAt v0 (mL K), mP K, mL K, mP K, mP K, mP K]) (fun f cdv A outer s H E c =>
  (jss_cons (js_if (ms' := [mAt v0 (mL _), mP _, mP _, mP _, mP _, mP _]) ((jb_cmp (op_eqD (room_u c.room)) s_eq ((je_call (dds := []) c C__law_take (argOk1 0 1 rfl sub_at) (fun _ => .nil) (ja_cons (jv_slot 0) (ja_cons (je_int).jv ja_nil)))).jv (je_int).jv)).jt (jss_one (js_ret (je_call (dds := []) c C__law_row (argOk1 0 1 rfl sub_at) (fun _ => .nil) (ja_cons (jv_slot 0) (ja_cons ((je_callB (call_min2 c.calm) c_min z_min rfl (ja_cons (je_int).jv (ja_cons ((je_var 1)).jv ja_nil)))).jv ja_nil))))) jss_nil)
  (jss_cons (js_set 2 (je_lstL ja_nil) c.nd)
  (jss_cons (js_for c.calm pas_of (ji_range1 z_range (ja_cons ((je_call (dds := []) c C__law_take (argOk1 0 1 rfl sub_at) (fun _ => .nil) (ja_cons (jv_slot 0) (ja_cons ((je_op op_addA s_add ((je_var 1)).jv (je_int).jv)).jv ja_nil)))).jv ja_nil)) (jg_name 3 c.nd) (jss_cons (js_set 4 (je_op op_addA s_add (je_int).jv ((je_call (dds := []) c C__law_take (argOk1 0 1 rfl sub_at) (fun _ => .nil) (ja_cons (jv_slot 0) (ja_cons (je_int).jv ja_nil)))).jv) c.nd)
  (jss_cons (js_set 5 (je_call (dds := []) c C__law_frac (argOk0 2) (fun _ => .nil) (ja_cons ((je_op op_addA s_add ((je_op op_sub s_sub ((je_call (dds := []) c C__law_take (argOk1 0 1 rfl sub_at) (fun _ => .nil) (ja_cons (jv_slot 0) (ja_cons ((je_op op_sub s_sub ((je_op op_mulA s_mul (je_int).jv ((je_var 4)).jv)).jv (je_int).jv)).jv ja_nil)))).jv ((je_var 4)).jv)).jv (je_int).jv)).jv (ja_cons ((je_var 4)).jv ja_nil))) c.nd)
  (jss_one (js_append 2 (je_call (dds := []) c C__law_of (argOk1 0 1 rfl sub_at) (fun _ => .nil) (ja_cons (jv_slot 0) (ja_cons ((je_frz (je_lstL (ja_cons ((je_var 5)).jv (ja_cons ((je_var 5)).jv (ja_cons ((je_tup (ja_cons (je_int).jv (ja_cons (je_int).jv ja_nil)))).jv (ja_cons ((je_tup (ja_cons ((je_op op_sub s_sub (je_int).jv ((je_var 4)).jv)).jv (ja_cons ((je_var 4)).jv ja_nil)))).jv ja_nil))))))).jv ja_nil))) lo_L)))))
  (jss_one (js_ret (je_tup (ja_cons ((je_callT call_tuple_of c_tuple z_tuple rfl (ja_cons (jv_slot 2) ja_nil))).jv (ja_cons ((je_call (dds := []) c C__law_of (argOk1 0 1 rfl sub_at) (fun _ => .nil) (ja_cons (jv_slot 0) (ja_cons ((je_frz (je_lstL (ja_cons (je_int).jv (ja_cons (je_int).jv (ja_cons (je_int).jv (ja_cons (je_int).jv (ja_cons (je_int).jv (ja_cons ((je_neg je_int)).jv ja_nil))))))))).jv ja_nil)))).jv ja_nil)))))))))
theorem bd__law_is_row (z_isinstance : mg "isinstance" = none) (z_tuple : mg "tuple" = none) (z_len : mg "len" = none) (z_int : mg "int" = none) (z_bool : mg "bool" = none) (z_all : mg "all" = none) (C__law_frac : Cal P w K mg base 1 "_law_frac" (spF xi (List.replicate 2 (mP K)) [] (mP K) fn_law_frac) []) (z_abs : mg "abs" = none) : ∀ vs : List V, vs.length = 1 → Bd P w K mg base ["_law_matter", "_law_pane_here", "_law_part"] "_law_is_row" (defScope s__law_is_row) (defBody s__law_is_row) 1 xi (List.replicate 1 (mP K)) [] (mP K) den_law_is_row vs
  | [v0], _ => bd_of (om := []) (ms := [mP K, mP K, mP K]) (ms' := [mP K, mP K, mP K]) (fun f cdv A outer s H E c =>
  (jss_cons (js_if (ms' := [mP _, mP _, mP _]) ((jw_or (jt_not ((je_isi "tuple" ((je_var 0)).jv z_isinstance z_tuple rfl)).jb.jt) (jw_or ((jb_cmp (op_neD (room_u c.room)) s_ne ((je_callB call_lenA c_len z_len PySem.boot_len (ja_cons ((je_var 0)).jv ja_nil))).jv (je_int).jv)).jt (jw_or1 (jt_not ((je_isi "tuple" ((je_ix ((je_var 0)).jv (je_int).jv)).jv z_isinstance z_tuple rfl)).jb.jt))))).jt (jss_one (js_ret je_bl)) jss_nil)
  (jss_cons (js_if (ms' := [mP _, mP _, mP _]) ((jw_or (jt_not ((je_isi "int" ((je_ix ((je_var 0)).jv (je_int).jv)).jv z_isinstance z_int rfl)).jb.jt) (jw_or ((je_isi "bool" ((je_ix ((je_var 0)).jv (je_int).jv)).jv z_isinstance z_bool rfl)).jb.jt (jw_or1 ((jb_cmp op_notIn_seq s_notIn ((je_ix ((je_var 0)).jv (je_int).jv)).jv ((je_tup (ja_cons (je_int).jv (ja_cons (je_int).jv (ja_cons ((je_neg je_int)).jv ja_nil))))).jv)).jt)))).jt (jss_one (js_ret je_bl)) jss_nil)
  (jss_cons (js_for c.calm pas_of (ji_sq (je_ix ((je_var 0)).jv (je_int).jv)) (jg_name 1 c.nd) (jss_cons (js_if (ms' := [mP _, mP _, mP _]) ((jw_or (jt_not ((je_isi "tuple" ((je_var 1)).jv z_isinstance z_tuple rfl)).jb.jt) (jw_or1 ((jb_cmp (op_neD (room_u c.room)) s_ne ((je_callB call_lenA c_len z_len PySem.boot_len (ja_cons ((je_var 1)).jv ja_nil))).jv (je_int).jv)).jt))).jt (jss_one (js_ret je_bl)) jss_nil)
  (jss_cons (js_if (ms' := [mP _, mP _, mP _]) ((jw_or (jt_not ((je_callB (cr_all c.calm) c_all z_all rfl (ja_cons ((je_frz (je_lc (own := [("_law_part", 2)]) c (ji_sq (je_var 1)) (by kernel_rfl) (by intro i hi; simp only [List.map, List.mem_cons, List.not_mem_nil, or_false] at hi; rcases hi with rfl <;> rfl) (by intro i hi; simp only [List.append_nil, List.cons_append, List.nil_append, List.map, List.mem_cons, List.not_mem_nil, or_false] at hi ⊢; omega) (fun _ _ _ _ _ => (jg_name 2 c.blk.nd)) (fun _ _ _ _ _ => jts_nil) (fun _ _ _ _ _ => (je_and (je_isi "int" ((je_var 2)).jv z_isinstance z_int rfl) (je_one (je_not (je_isi "bool" ((je_var 2)).jv z_isinstance z_bool rfl)))))))).jv ja_nil))).jb.jt) (jw_or1 ((jb_cmp op_lt s_cmp ((je_ix ((je_var 1)).jv (je_int).jv)).jv (je_int).jv)).jt))).jt (jss_one (js_ret je_bl)) jss_nil)
  (jss_one (js_if (ms' := [mP _, mP _, mP _]) ((jw_or ((jb_cmp (op_neD (room_u c.room)) s_ne ((je_call (dds := []) c C__law_frac (argOk0 2) (fun _ => .nil) (ja_cons ((je_ix ((je_var 1)).jv (je_int).jv)).jv (ja_cons ((je_ix ((je_var 1)).jv (je_int).jv)).jv ja_nil)))).jv ((je_var 1)).jv)).jt (jw_or1 ((jb_cmp op_ge s_cmp ((je_callB call_abs c_abs z_abs rfl (ja_cons ((je_ix ((je_var 1)).jv (je_int).jv)).jv ja_nil))).jv ((je_ix ((je_var 1)).jv (je_int).jv)).jv)).jt))).jt (jss_one (js_ret je_bl)) jss_nil)))))
  (jss_one (js_ret je_bl))))))
theorem bd__law_odd (C__law_of : Cal P w K mg base 2 "_law_of" (spF xi (mL K :: List.replicate 1 (mP K)) [0] (mP K) fn_law_of) []) (z_list : mg "list" = none) : ∀ vs : List V, vs.length = 3 → Bd P w K mg base ["_law_box_here", "_law_row_here", "_law_at", "_law_panes", "_law_shut", "_law_one", "_law_some"] "_law_odd" (defScope s__law_odd) (defBody s__law_odd) 2 xi (mL K :: List.replicate 2 (mP K)) [0] (mP K) den_law_odd vs
  | [v0, v1, v2], _ => bd_of (om := [(0, v0, mL K)]) (ms := [mAt v0 (mL K), mP K, mP K, mP K, mP K, mP K, mP K]) (ms' := [mAt v0 (mL K), mP K, mP K, mP K, mP K, mP K, mP K]) (fun f cdv A outer s H E c =>
  (jss_cons (js_asg (je_var 1) (jg_sq c.calm (jgs_cons (jg_name 3 c.nd) (jgs_cons (jg_name 4 c.nd) jgs_nil))))
  (jss_cons (js_set 5 (je_call (dds := []) c C__law_of (argOk1 0 1 rfl sub_at) (fun _ => .nil) (ja_cons (jv_slot 0) (ja_cons ((je_frz (je_lstL (ja_cons ((je_tup (ja_cons (je_int).jv (ja_cons (je_int).jv ja_nil)))).jv (ja_cons ((je_tup (ja_cons ((je_neg je_int)).jv (ja_cons (je_int).jv ja_nil)))).jv (ja_cons ((je_tup (ja_cons (je_int).jv (ja_cons (je_int).jv ja_nil)))).jv (ja_cons ((je_tup (ja_cons (je_int).jv (ja_cons (je_int).jv ja_nil)))).jv (ja_cons ((je_tup (ja_cons (je_int).jv (ja_cons ((je_neg je_int)).jv ja_nil)))).jv (ja_cons ((je_frz (je_lstL (ja_cons (je_int).jv (ja_cons (je_int).jv ja_nil))))).jv (ja_cons ((je_tup (ja_cons (je_bl).jv (ja_cons (je_int).jv ja_nil)))).jv (ja_cons ((je_tup (ja_cons (je_int).jv (ja_cons (je_int).jv ja_nil)))).jv (ja_cons (je_int).jv (ja_cons (je_non).jv (ja_cons ((je_tup (ja_cons (je_int).jv (ja_cons (je_int).jv (ja_cons (je_int).jv ja_nil))))).jv ja_nil)))))))))))))).jv ja_nil))) c.nd)
  (jss_cons (js_set 6 (je_frz (je_lstL (ja_cons ((je_tup (ja_cons ((je_op op_addA s_add ((je_op op_addA s_add ((je_sl ((je_var 3)).jv jo_none (jo_some (je_var 2)))).jv ((je_tup (ja_cons ((je_var 5)).jv ja_nil))).jv)).jv ((je_sl ((je_var 3)).jv (jo_some (je_var 2)) jo_none)).jv)).jv (ja_cons ((je_var 4)).jv ja_nil)))).jv (ja_cons ((je_tup (ja_cons ((je_frz (je_callTL call_list_of c_list z_list rfl (ja_cons ((je_var 3)).jv ja_nil)))).jv (ja_cons ((je_var 4)).jv ja_nil)))).jv (ja_cons ((je_frz (je_lstL (ja_cons ((je_var 3)).jv (ja_cons ((je_var 4)).jv ja_nil))))).jv (ja_cons ((je_tup (ja_cons ((je_var 3)).jv ja_nil))).jv (ja_cons ((je_var 3)).jv (ja_cons ((je_tup (ja_cons ((je_var 3)).jv (ja_cons (je_int).jv ja_nil)))).jv ja_nil)))))))) c.nd)
  (jss_cons (js_set 6 (je_op op_addA s_add ((je_var 6)).jv ((je_frz (je_lstL (ja_cons ((je_tup (ja_cons ((je_var 3)).jv (ja_cons (je_non).jv ja_nil)))).jv (ja_cons ((je_tup (ja_cons ((je_var 3)).jv (ja_cons (((jb_cmp (op_eqD (room_u c.room)) s_eq ((je_var 4)).jv (je_int).jv)).je).jv ja_nil)))).jv (ja_cons ((je_tup (ja_cons ((je_var 3)).jv (ja_cons ((je_tup (ja_cons ((je_var 4)).jv (ja_cons (je_int).jv ja_nil)))).jv ja_nil)))).jv (ja_cons ((je_tup (ja_cons ((je_var 3)).jv (ja_cons ((je_var 4)).jv (ja_cons (je_int).jv ja_nil))))).jv (ja_cons (je_non).jv (ja_cons (je_str).jv (ja_cons ((je_tup ja_nil)).jv (ja_cons ((je_frz (je_lstL ja_nil))).jv ja_nil))))))))))).jv) c.nd)
  (jss_one (js_ret (je_call (dds := []) c C__law_of (argOk1 0 1 rfl sub_at) (fun _ => .nil) (ja_cons (jv_slot 0) (ja_cons ((je_op op_addA s_add ((je_var 6)).jv ((je_frz (je_lstL (ja_cons ((je_tup (ja_cons ((je_var 4)).jv (ja_cons ((je_var 3)).jv ja_nil)))).jv ja_nil)))).jv)).jv ja_nil))))))))))
theorem bd__law_near (C__law_pane : Cal P w K mg base 3 "_law_pane" (spF xi (mL K :: List.replicate 0 (mP K)) [0] (mP K) fn_law_pane_v2) []) (C__law_of : Cal P w K mg base 2 "_law_of" (spF xi (mL K :: List.replicate 1 (mP K)) [0] (mP K) fn_law_of) []) : ∀ vs : List V, vs.length = 3 → Bd P w K mg base ["_law_box_here", "_law_row_here", "_law_at", "_law_panes", "_law_shut", "_law_some"] "_law_near" (defScope s__law_near) (defBody s__law_near) 3 xi (mL K :: List.replicate 2 (mP K)) [0] (mP K) den_law_near vs
  | [v0, v1, v2], _ => bd_of (om := [(0, v0, mL K)]) (ms := [mAt v0 (mL K), mP K, mP K, mP K, mP K, mP K]) (ms' := [mAt v0 (mL K), mP K, mP K, mP K, mP K, mP K]) (fun f cdv A outer s H E c =>
  (jss_cons (js_asg (je_var 1) (jg_sq c.calm (jgs_cons (jg_name 3 c.nd) (jgs_cons (jg_name 4 c.nd) jgs_nil))))
  (jss_cons (js_set 5 (je_frz (je_lstL (ja_cons ((je_var 1)).jv (ja_cons ((je_tup (ja_cons ((je_op op_addA s_add ((je_var 3)).jv ((je_tup (ja_cons ((je_call (dds := []) c C__law_pane (argOk1 0 0 rfl sub_at) (fun _ => .nil) (ja_cons (jv_slot 0) ja_nil))).jv ja_nil))).jv)).jv (ja_cons ((je_var 4)).jv ja_nil)))).jv (ja_cons ((je_tup (ja_cons ((je_op op_addA s_add ((je_var 3)).jv ((je_op op_repA s_mulT ((je_tup (ja_cons ((je_tup (ja_cons (je_int).jv (ja_cons (je_int).jv ja_nil)))).jv ja_nil))).jv (je_int).jv)).jv)).jv (ja_cons ((je_var 4)).jv ja_nil)))).jv (ja_cons ((je_tup (ja_cons ((je_var 3)).jv (ja_cons (je_int).jv ja_nil)))).jv (ja_cons ((je_tup (ja_cons ((je_var 3)).jv (ja_cons (je_int).jv ja_nil)))).jv (ja_cons ((je_tup (ja_cons ((je_var 3)).jv (ja_cons ((je_neg je_int)).jv ja_nil)))).jv ja_nil)))))))) c.nd)
  (jss_cons (js_set 5 (je_op op_addA s_add ((je_var 5)).jv ((je_frz (je_lstL (ja_cons ((je_tup (ja_cons ((je_op op_addA s_add ((je_op op_addA s_add ((je_sl ((je_var 3)).jv jo_none (jo_some (je_var 2)))).jv ((je_tup (ja_cons ((je_call (dds := []) c C__law_pane (argOk1 0 0 rfl sub_at) (fun _ => .nil) (ja_cons (jv_slot 0) ja_nil))).jv ja_nil))).jv)).jv ((je_sl ((je_var 3)).jv (jo_some (je_op op_addA s_add ((je_var 2)).jv (je_int).jv)) jo_none)).jv)).jv (ja_cons ((je_var 4)).jv ja_nil)))).jv (ja_cons ((je_tup (ja_cons ((je_op op_addA s_add ((je_sl ((je_var 3)).jv jo_none (jo_some (je_var 2)))).jv ((je_sl ((je_var 3)).jv (jo_some (je_op op_addA s_add ((je_var 2)).jv (je_int).jv)) jo_none)).jv)).jv (ja_cons ((je_var 4)).jv ja_nil)))).jv ja_nil))))).jv) c.nd)
  (jss_one (js_ret (je_call (dds := []) c C__law_of (argOk1 0 1 rfl sub_at) (fun _ => .nil) (ja_cons (jv_slot 0) (ja_cons ((je_var 5)).jv ja_nil)))))))))
theorem bd__law_right (C__law_light_row : Cal P w K mg base 5 "_law_light_row" (spF xi (mL K :: List.replicate 1 (mP K)) [0] (mP K) fn_law_light_row) []) (z_len : mg "len" = none) (C__law_take : Cal P w K mg base 1 "_law_take" (spF xi (mL K :: List.replicate 1 (mP K)) [0] (mP K) fn_law_take) []) (C__law_echo : Cal P w K mg base 6 "_law_echo" (spF xi (List.replicate 2 (mP K)) [] (mL K) fn_law_echo) []) (z_max : mg "max" = none) (C__law_plus : Cal P w K mg base 2 "_law_plus" (spF xi (List.replicate 2 (mP K)) [] (mP K) fn_law_plus) []) (z_range : mg "range" = none) (C__law_near : Cal P w K mg base 4 "_law_near" (spF xi (mL K :: List.replicate 2 (mP K)) [0] (mP K) fn_law_near) []) (C__law_odd : Cal P w K mg base 3 "_law_odd" (spF xi (mL K :: List.replicate 2 (mP K)) [0] (mP K) fn_law_odd) []) (z_repr : mg "repr" = none) (C__law_is_row : Cal P w K mg base 2 "_law_is_row" (spF xi (List.replicate 1 (mP K)) [] (mP K) fn_law_is_row) []) (C__law_same : Cal P w K mg base 10 "_law_same" (spF xi (List.replicate 2 (mP K)) [] (mP K) (fn_law_same 10)) []) (C_shows_row : Cal P w K mg base 7 "shows_row" (spF xi (List.replicate 2 (mP K)) [] (mP K) fn_shows_row) []) (z_tuple : mg "tuple" = none) : ∀ vs : List V, vs.length = 1 → BdG P w K mg base ["_law_box_here", "_law_row_here", "_law_many", "_law_numbers", "_law_spot", "_law_turn", "_law_at", "_law_near_here", "_law_matter", "_law_kept", "_law_due"] "_law_right" (defScope s__law_right) (defBody s__law_right) 10 xi (mL K :: List.replicate 0 (mP K)) [0] (mP K) den_law_right_v2 vs
  | [v0], _ => bdG_of (om := [(0, v0, mL K)]) (ms := [mAt v0 (mL K), mP K, mP K, mP K, mP K, mP K, mP K, mP K, mP K, mP K, mP K]) (ms' := [mAt v0 (mL K), mP K, mP K, mP K, mP K, mP K, mP K, mP K, mP K, mP K, mP K]) (fun f cdv A outer s H E gd c =>
  (jss_cons (js_set 1 (je_call (dds := []) c C__law_light_row (argOk1 0 1 rfl sub_at) (fun _ => .nil) (ja_cons (jv_slot 0) (ja_cons (je_int).jv ja_nil))) c.nd)
  (jss_cons (js_set 2 (je_op op_sub s_sub ((je_op op_addA s_add ((je_callB call_lenA c_len z_len PySem.boot_len (ja_cons ((je_ix ((je_var 1)).jv (je_int).jv)).jv ja_nil))).jv ((je_call (dds := []) c C__law_take (argOk1 0 1 rfl sub_at) (fun _ => .nil) (ja_cons (jv_slot 0) (ja_cons (je_int).jv ja_nil)))).jv)).jv (je_int).jv) c.nd)
  (jss_cons (js_set 3 (je_call (dds := []) c C__law_echo (argOk0 2) (fun _ => .nil) (ja_cons ((je_var 1)).jv (ja_cons ((je_callB (call_max2 c.calm) c_max z_max rfl (ja_cons (je_int).jv (ja_cons ((je_var 2)).jv ja_nil)))).jv ja_nil))) c.nd)
  (jss_cons (js_if (ms' := [mAt v0 (mL _), mP _, mP _, mL _, mP _, mP _, mP _, mP _, mP _, mP _, mP _]) ((jw_and ((jb_cmp (op_eqD (room_u c.room)) s_eq ((je_call (dds := []) c C__law_take (argOk1 0 1 rfl sub_at) (fun _ => .nil) (ja_cons (jv_slot 0) (ja_cons (je_int).jv ja_nil)))).jv (je_int).jv)).jt (jw_and1 ((jb_cmp (op_neD (room_u c.room)) s_ne (jv_slot 3) ((je_frz (je_lstL ja_nil))).jv)).jt))).jt (jss_cons (js_set 4 (je_call (dds := []) c C__law_take (argOk1 0 1 rfl sub_at) (fun _ => .nil) (ja_cons (jv_slot 0) (ja_cons ((je_callB call_lenA c_len z_len PySem.boot_len (ja_cons (jv_slot 3) ja_nil))).jv ja_nil))) c.nd)
  (jss_one (js_setIx 3 (je_call (dds := []) c C__law_plus (argOk0 2) (fun _ => .nil) (ja_cons ((je_ix (jv_slot 3) ((je_var 4)).jv)).jv (ja_cons ((je_tup (ja_cons (je_int).jv (ja_cons (je_int).jv ja_nil)))).jv ja_nil))) (je_var 4) lo_L))) jss_nil)
  (jss_frz 3 rfl (jss_cons (js_for c.calm pas_of (ji_range1 z_range (ja_cons (je_int).jv ja_nil)) (jg_name 5 c.nd) (jss_cons (js_set 6 (je_call (dds := []) c C__law_take (argOk1 0 1 rfl sub_at) (fun _ => .nil) (ja_cons (jv_slot 0) (ja_cons ((je_op op_addA s_add ((je_callB call_lenA c_len z_len PySem.boot_len (ja_cons ((je_ix ((je_var 1)).jv (je_int).jv)).jv ja_nil))).jv (je_int).jv)).jv ja_nil))) c.nd)
  (jss_cons (js_set 7 ((jb_cmp (op_eqD (room_u c.room)) s_eq ((je_call (dds := []) c C__law_take (argOk1 0 1 rfl sub_at) (fun _ => .nil) (ja_cons (jv_slot 0) (ja_cons (je_int).jv ja_nil)))).jv (je_int).jv)).je c.nd)
  (jss_cons (js_set 8 (je_if ((je_var 7)).jb.jt (je_call (dds := []) c C__law_near (argOk1 0 2 rfl sub_at) (fun _ => .nil) (ja_cons (jv_slot 0) (ja_cons ((je_var 1)).jv (ja_cons ((je_var 6)).jv ja_nil)))) (je_call (dds := []) c C__law_odd (argOk1 0 2 rfl sub_at) (fun _ => .nil) (ja_cons (jv_slot 0) (ja_cons ((je_var 1)).jv (ja_cons ((je_var 6)).jv ja_nil))))) c.nd)
  (jss_cons (js_set 9 (je_callB (call_reprD gd (cfgU65 c)) c_repr z_repr rfl (ja_cons ((je_var 8)).jv ja_nil)) c.nd)
  (jss_cons (js_set 10 (je_and (je_call (dds := []) c C__law_is_row (argOk0 1) (fun _ => .nil) (ja_cons ((je_var 8)).jv ja_nil)) (je_one ((jb_cmp (op_eqD (room_u c.room)) s_eq ((je_frz (je_call (dds := []) c C__law_echo (argOk0 2) (fun _ => .nil) (ja_cons ((je_var 8)).jv (ja_cons ((je_callB call_lenA c_len z_len PySem.boot_len (ja_cons ((je_var 3)).jv ja_nil))).jv ja_nil))))).jv ((je_var 3)).jv)).je)) c.nd)
  (jss_cons (js_if (ms' := [mAt v0 (mL _), mP _, mP _, mP _, mP _, mP _, mP _, mP _, mP _, mP _, mP _]) (jt_not ((je_call (dds := []) c C__law_same (argOk0 2) (fun _ => .nil) (ja_cons ((je_call (dds := []) c C_shows_row (argOk0 2) (fun _ => .nil) (ja_cons ((je_if ((jb_cmp (op_eqD (room_u c.room)) s_eq ((je_op op_modN s_mod ((je_var 6)).jv (je_int).jv)).jv (je_int).jv)).jt (je_callT call_tuple_of c_tuple z_tuple rfl (ja_cons ((je_var 3)).jv ja_nil)) (je_var 3))).jv (ja_cons ((je_var 8)).jv ja_nil)))).jv (ja_cons ((je_var 10)).jv ja_nil)))).jb.jt) (jss_one (js_ret je_bl)) jss_nil)
  (jss_one (js_if (ms' := [mAt v0 (mL _), mP _, mP _, mP _, mP _, mP _, mP _, mP _, mP _, mP _, mP _]) ((jb_cmp op_ne s_neS ((je_callB (call_reprD gd (cfgU65 c)) c_repr z_repr rfl (ja_cons ((je_var 8)).jv ja_nil))).jv ((je_var 9)).jv)).jt (jss_one (js_ret je_bl)) jss_nil)))))))))
  (jss_one (js_ret je_bl)))))))))
theorem bd_law (z_len : mg "len" = none) (z_min : mg "min" = none) (z_range : mg "range" = none) (C__law_box : Cal P w K mg base 2 "_law_box" (spF xi (mS K :: List.replicate 1 (mP K)) [] (mL K) fn_law_box) []) (C__law_right : CalG P w K mg base 11 "_law_right" (spF xi (mL K :: List.replicate 0 (mP K)) [0] (mP K) fn_law_right_v2) []) (z_all : mg "all" = none) : ∀ vs : List V, vs.length = 1 → BdG P w K mg base ["_law_script", "_law_k", "_law_box_here", "_law_turn"] "law" (defScope s_law) (defBody s_law) 11 xi (mS K :: List.replicate 0 (mP K)) [] (mP K) den_law_v3 vs
  | [v0], _ => bdG_of (om := []) (ms := [mS K, mP K, mP K, mP K]) (ms' := [mS K, mP K, mP K, mP K]) (fun f cdv A outer s H E gd c =>
  (jss_cons (js_for c.calm pas_of (ji_range1 z_range (ja_cons ((je_op op_addA s_add (je_int).jv ((je_callB (call_min2 c.calm) c_min z_min rfl (ja_cons (je_int).jv (ja_cons ((je_lenS 0 z_len)).jv ja_nil)))).jv)).jv ja_nil)) (jg_name 1 c.nd) (jss_cons (js_set 2 (je_call (dds := []) c C__law_box (argOkS 0 1 rfl sub_refl nofp_S) (fun _ => .nil) (ja_cons (jv_slot 0) (ja_cons ((je_var 1)).jv ja_nil))) c.nd)
  (jss_cons (js_if (ms' := [mS _, mP _, mL _, mP _]) (jt_not ((je_callB (cr_all c.calm) c_all z_all rfl (ja_cons ((je_frz (je_lc (own := [("_law_turn", 3)]) c (ji_range1 z_range (ja_cons (je_int).jv ja_nil)) (by kernel_rfl) (by intro i hi; simp only [List.map, List.mem_cons, List.not_mem_nil, or_false] at hi; rcases hi with rfl <;> rfl) (by intro i hi; simp only [List.append_nil, List.cons_append, List.nil_append, List.map, List.mem_cons, List.not_mem_nil, or_false] at hi ⊢; omega) (fun _ _ _ _ _ => (jg_name 3 c.blk.nd)) (fun _ _ _ _ _ => jts_nil) (fun _ _ _ _ _ => (je_callG (dds := []) gd c.blk C__law_right (argOk1 2 0 rfl sub_refl) (fun _ => .nil) (ja_cons (jv_slot 2) ja_nil)))))).jv ja_nil))).jb.jt) (jss_one (js_ret je_bl)) jss_nil)
  (jss_frz 2 rfl jss_nil))))
  (jss_one (js_ret je_bl))))
end
set_option maxHeartbeats 8000000
theorem facts {P : Program} {w : World} {K : PySem.W.Frag} {xi : XI} {h : Heap} {mg : Str → Option Value} {f : Addr} (X : K.In h) (G : h.Ns mainGlobals mg) (hfa : mg ("law" : Str) = some (.ref f)) (c : He.SaysD faL fnL K) (hx : exK K = true) :
    ∃ fd : FuncData, (∀ (s : Shared) (v : Value), BindsTo s fd ⟨[v], []⟩ [("_law_script", v)]) ∧ ∀ base : Heap, K.In base → base.Ns mainGlobals mg → FnG P w K mg base (L2.CX P w) 12 f fd ["_law_script"] (spF xi [mS K] [] (mP K) fn_law_v3) := by
  obtain ⟨fd_is_number, F_is_number⟩ := c.def_ 0 (d := d_is_number) rfl
  obtain ⟨fd_common, F_common⟩ := c.def_ 1 (d := d_common) rfl
  obtain ⟨fd_is_frac, F_is_frac⟩ := c.def_ 2 (d := d_is_frac) rfl
  obtain ⟨fd_frac, F_frac⟩ := c.def_ 3 (d := d_frac) rfl
  obtain ⟨fd_minus, F_minus⟩ := c.def_ 4 (d := d_minus) rfl
  obtain ⟨fd_times, F_times⟩ := c.def_ 5 (d := d_times) rfl
  obtain ⟨fd_over, F_over⟩ := c.def_ 6 (d := d_over) rfl
  obtain ⟨fd_padded, F_padded⟩ := c.def_ 7 (d := d_padded) rfl
  obtain ⟨fd_quotient_to, F_quotient_to⟩ := c.def_ 8 (d := d_quotient_to) rfl
  obtain ⟨fd_is_pane, F_is_pane⟩ := c.def_ 9 (d := d_is_pane) rfl
  obtain ⟨fd_is_row, F_is_row⟩ := c.def_ 10 (d := d_is_row) rfl
  obtain ⟨fd_filled, F_filled⟩ := c.def_ 11 (d := d_filled) rfl
  obtain ⟨fd_later, F_later⟩ := c.def_ 12 (d := d_later) rfl
  obtain ⟨fd_echo, F_echo⟩ := c.def_ 13 (d := d_echo) rfl
  obtain ⟨fd_shows_row, F_shows_row⟩ := c.def_ 14 (d := d_shows_row) rfl
  obtain ⟨fd__law_cell_at, F__law_cell_at⟩ := c.def_ 15 (d := d__law_cell_at) rfl
  obtain ⟨fd__law_box, F__law_box⟩ := c.def_ 16 (d := d__law_box) rfl
  obtain ⟨fd__law_take, F__law_take⟩ := c.def_ 17 (d := d__law_take) rfl
  obtain ⟨fd__law_of, F__law_of⟩ := c.def_ 18 (d := d__law_of) rfl
  obtain ⟨fd__law_same, F__law_same⟩ := c.def_ 19 (d := d__law_same) rfl
  obtain ⟨fd__law_frac, F__law_frac⟩ := c.def_ 20 (d := d__law_frac) rfl
  obtain ⟨fd__law_plus, F__law_plus⟩ := c.def_ 21 (d := d__law_plus) rfl
  obtain ⟨fd__law_less, F__law_less⟩ := c.def_ 22 (d := d__law_less) rfl
  obtain ⟨fd__law_times, F__law_times⟩ := c.def_ 23 (d := d__law_times) rfl
  obtain ⟨fd__law_pane, F__law_pane⟩ := c.def_ 24 (d := d__law_pane) rfl
  obtain ⟨fd__law_row, F__law_row⟩ := c.def_ 25 (d := d__law_row) rfl
  obtain ⟨fd__law_met, F__law_met⟩ := c.def_ 26 (d := d__law_met) rfl
  obtain ⟨fd__law_beat, F__law_beat⟩ := c.def_ 27 (d := d__law_beat) rfl
  obtain ⟨fd__law_heard, F__law_heard⟩ := c.def_ 28 (d := d__law_heard) rfl
  obtain ⟨fd__law_echo, F__law_echo⟩ := c.def_ 29 (d := d__law_echo) rfl
  obtain ⟨fd__law_light_row, F__law_light_row⟩ := c.def_ 30 (d := d__law_light_row) rfl
  obtain ⟨fd__law_is_row, F__law_is_row⟩ := c.def_ 31 (d := d__law_is_row) rfl
  obtain ⟨fd__law_odd, F__law_odd⟩ := c.def_ 32 (d := d__law_odd) rfl
  obtain ⟨fd__law_near, F__law_near⟩ := c.def_ 33 (d := d__law_near) rfl
  obtain ⟨fd__law_right, F__law_right⟩ := c.def_ 34 (d := d__law_right) rfl
  obtain ⟨fd_law, F_law⟩ := c.def_ 35 (d := d_law) rfl
  have e := hfa.symm.trans (He.glo_ok X G (c.fact 35 (f := .glo "law") rfl))
  cases e
  have b := FunD.bindsA (ps := ["_law_script"]) F_law fun _ _ _ _ _ _ us hl => match us, hl with | [_], _ => rfl
  refine ⟨fd_law, fun s v => b s [v] rfl, fun base _ _ => ?_⟩
  have z_isinstance : mg "isinstance" = none := He.free_ok X G (c.fact 36 (f := .free "isinstance") rfl)
  have z_int : mg "int" = none := He.free_ok X G (c.fact 37 (f := .free "int") rfl)
  have z_bool : mg "bool" = none := He.free_ok X G (c.fact 38 (f := .free "bool") rfl)
  have z_tuple : mg "tuple" = none := He.free_ok X G (c.fact 39 (f := .free "tuple") rfl)
  have z_len : mg "len" = none := He.free_ok X G (c.fact 40 (f := .free "len") rfl)
  have z_all : mg "all" = none := He.free_ok X G (c.fact 41 (f := .free "all") rfl)
  have z_abs : mg "abs" = none := He.free_ok X G (c.fact 42 (f := .free "abs") rfl)
  have z_list : mg "list" = none := He.free_ok X G (c.fact 43 (f := .free "list") rfl)
  have z_max : mg "max" = none := He.free_ok X G (c.fact 44 (f := .free "max") rfl)
  have z_range : mg "range" = none := He.free_ok X G (c.fact 45 (f := .free "range") rfl)
  have z_dict : mg "dict" = none := He.free_ok X G (c.fact 46 (f := .free "dict") rfl)
  have z_zip : mg "zip" = none := He.free_ok X G (c.fact 47 (f := .free "zip") rfl)
  have z_str : mg "str" = none := He.free_ok X G (c.fact 48 (f := .free "str") rfl)
  have z_enumerate : mg "enumerate" = none := He.free_ok X G (c.fact 49 (f := .free "enumerate") rfl)
  have z_min : mg "min" = none := He.free_ok X G (c.fact 50 (f := .free "min") rfl)
  have z_repr : mg "repr" = none := He.free_ok X G (c.fact 51 (f := .free "repr") rfl)
  have g_NOUGHT : GlK K mg "NOUGHT" (.tuple [(.int 0), (.int 1)]) := gl_tup (He.glo_ok X G (c.fact 52 (f := .glo "NOUGHT") rfl)) (fun H => He.tupB_ok (He.ba (He.ba hx).1).1 H) (fun G => .cons (.int _) (.cons (.int _) (.nil)))
  have g_WALLS : GlK K mg "WALLS" (.tuple [(.int (-1)), (.int 0), (.int 1)]) := gl_tup (He.glo_ok X G (c.fact 53 (f := .glo "WALLS") rfl)) (fun H => He.tupB_ok (He.ba (He.ba hx).1).2 H) (fun G => .cons (.int _) (.cons (.int _) (.cons (.int _) (.nil))))
  have g_ONE : GlK K mg "ONE" (.tuple [(.int 1), (.int 1)]) := gl_tup (He.glo_ok X G (c.fact 54 (f := .glo "ONE") rfl)) (fun H => He.tupB_ok (He.ba hx).2 H) (fun G => .cons (.int _) (.cons (.int _) (.nil)))
  have O_is_number : FnOk P w K mg base (L2.CX P w) 1 (He.fAd K d_is_number.at_) fd_is_number ["thing"] (spF xi (List.replicate 1 (mP K)) [] (mP K) fn_is_number) := fn_ok F_is_number sc_is_number rfl (by intro i hi; cases hi) (bd_is_number z_isinstance z_int z_bool)
  have C_is_number := (cal_of O_is_number (He.glo_ok X G (c.fact 0 (f := .glo "is_number") rfl)) F_is_number.kp (F_is_number.bindsN fun _ _ _ _ _ _ us hl => match us, hl with | [_], _ => rfl) .nil)
  have O_common : FnOk P w K mg base (L2.CX P w) 1 (He.fAd K d_common.at_) fd_common ["one", "other"] (spF xi (List.replicate 2 (mP K)) [] (mP K) fn_common) := fn_ok F_common sc_common rfl (by intro i hi; cases hi) (bd_common )
  have C_common := (cal_of O_common (He.glo_ok X G (c.fact 1 (f := .glo "common") rfl)) F_common.kp (F_common.bindsN fun _ _ _ _ _ _ us hl => match us, hl with | [_, _], _ => rfl) .nil)
  have O_is_frac : FnOk P w K mg base (L2.CX P w) 2 (He.fAd K d_is_frac.at_) fd_is_frac ["thing"] (spF xi (List.replicate 1 (mP K)) [] (mP K) fn_is_frac) := fn_ok F_is_frac sc_is_frac rfl (by intro i hi; cases hi) (bd_is_frac z_isinstance z_tuple z_len C_is_number z_all C_common z_abs)
  have C_is_frac := (cal_of O_is_frac (He.glo_ok X G (c.fact 2 (f := .glo "is_frac") rfl)) F_is_frac.kp (F_is_frac.bindsN fun _ _ _ _ _ _ us hl => match us, hl with | [_], _ => rfl) .nil)
  have O_frac : FnOk P w K mg base (L2.CX P w) 2 (He.fAd K d_frac.at_) fd_frac ["top", "bottom"] (spF xi (List.replicate 2 (mP K)) [] (mP K) fn_frac) := fn_ok F_frac sc_frac rfl (by intro i hi; cases hi) (bd_frac C_common z_abs)
  have C_frac : Cal P w K mg base 2 "frac" (spF xi (List.replicate 2 (mP K)) [] (mP K) fn_frac) [] := (by obtain ⟨ds, h1, h2⟩ := F_frac.binds1 (ps := ["top", "bottom"]) 2 1 (show [V.int 1] ≠ [] from fun hh => by cases hh) rfl (fun T kV doc pm an cdv ct us its h1 h2 => match us, its, h1, h2 with | [_, _], [_], _, _ => ⟨_, rfl, rfl⟩); exact cal_of O_frac (He.glo_ok X G (c.fact 3 (f := .glo "frac") rfl)) F_frac.kp h2 h1)
  have O_minus : FnOk P w K mg base (L2.CX P w) 3 (He.fAd K d_minus.at_) fd_minus ["one", "other"] (spF xi (List.replicate 2 (mP K)) [] (mP K) fn_minus) := fn_ok F_minus sc_minus rfl (by intro i hi; cases hi) (bd_minus C_frac)
  have C_minus := (cal_of O_minus (He.glo_ok X G (c.fact 4 (f := .glo "minus") rfl)) F_minus.kp (F_minus.bindsN fun _ _ _ _ _ _ us hl => match us, hl with | [_, _], _ => rfl) .nil)
  have O_times : FnOk P w K mg base (L2.CX P w) 3 (He.fAd K d_times.at_) fd_times ["one", "other"] (spF xi (List.replicate 2 (mP K)) [] (mP K) fn_times) := fn_ok F_times sc_times rfl (by intro i hi; cases hi) (bd_times C_frac)
  have C_times := (cal_of O_times (He.glo_ok X G (c.fact 5 (f := .glo "times") rfl)) F_times.kp (F_times.bindsN fun _ _ _ _ _ _ us hl => match us, hl with | [_, _], _ => rfl) .nil)
  have O_over : FnOk P w K mg base (L2.CX P w) 3 (He.fAd K d_over.at_) fd_over ["one", "other"] (spF xi (List.replicate 2 (mP K)) [] (mP K) fn_over) := fn_ok F_over sc_over rfl (by intro i hi; cases hi) (bd_over C_frac)
  have C_over := (cal_of O_over (He.glo_ok X G (c.fact 6 (f := .glo "over") rfl)) F_over.kp (F_over.bindsN fun _ _ _ _ _ _ us hl => match us, hl with | [_, _], _ => rfl) .nil)
  have O_padded : FnOk P w K mg base (L2.CX P w) 1 (He.fAd K d_padded.at_) fd_padded ["poly", "many"] (spF xi (List.replicate 2 (mP K)) [] (mL K) fn_padded) := fn_ok F_padded sc_padded rfl (by intro i hi; cases hi) (bd_padded z_list g_NOUGHT z_len z_max)
  have C_padded := (cal_of O_padded (He.glo_ok X G (c.fact 7 (f := .glo "padded") rfl)) F_padded.kp (F_padded.bindsN fun _ _ _ _ _ _ us hl => match us, hl with | [_, _], _ => rfl) .nil)
  have O_quotient_to : FnOk P w K mg base (L2.CX P w) 4 (He.fAd K d_quotient_to.at_) fd_quotient_to ["one", "other", "many"] (spF xi (List.replicate 3 (mP K)) [] (mL K) fn_quotient_to) := fn_ok F_quotient_to sc_quotient_to rfl (by intro i hi; cases hi) (bd_quotient_to C_padded z_range C_over C_minus C_times)
  have C_quotient_to := (cal_of O_quotient_to (He.glo_ok X G (c.fact 8 (f := .glo "quotient_to") rfl)) F_quotient_to.kp (F_quotient_to.bindsN fun _ _ _ _ _ _ us hl => match us, hl with | [_, _, _], _ => rfl) .nil)
  have O_is_pane : FnOk P w K mg base (L2.CX P w) 3 (He.fAd K d_is_pane.at_) fd_is_pane ["thing"] (spF xi (List.replicate 1 (mP K)) [] (mP K) fn_is_pane) := fn_ok F_is_pane sc_is_pane rfl (by intro i hi; cases hi) (bd_is_pane C_is_frac z_abs)
  have C_is_pane := (cal_of O_is_pane (He.glo_ok X G (c.fact 9 (f := .glo "is_pane") rfl)) F_is_pane.kp (F_is_pane.bindsN fun _ _ _ _ _ _ us hl => match us, hl with | [_], _ => rfl) .nil)
  have O_is_row : FnOk P w K mg base (L2.CX P w) 4 (He.fAd K d_is_row.at_) fd_is_row ["thing"] (spF xi (List.replicate 1 (mP K)) [] (mP K) fn_is_row) := fn_ok F_is_row sc_is_row rfl (by intro i hi; cases hi) (bd_is_row z_isinstance z_tuple z_len C_is_pane z_all C_is_number g_WALLS)
  have C_is_row := (cal_of O_is_row (He.glo_ok X G (c.fact 10 (f := .glo "is_row") rfl)) F_is_row.kp (F_is_row.bindsN fun _ _ _ _ _ _ us hl => match us, hl with | [_], _ => rfl) .nil)
  have O_filled : FnOk P w K mg base (L2.CX P w) 1 (He.fAd K d_filled.at_) fd_filled ["some", "many"] (spF xi (List.replicate 2 (mP K)) [] (mL K) fn_filled) := fn_ok F_filled sc_filled rfl (by intro i hi; cases hi) (bd_filled z_list g_NOUGHT)
  have C_filled := (cal_of O_filled (He.glo_ok X G (c.fact 11 (f := .glo "filled") rfl)) F_filled.kp (F_filled.bindsN fun _ _ _ _ _ _ us hl => match us, hl with | [_, _], _ => rfl) .nil)
  have O_later : FnOk P w K mg base (L2.CX P w) 5 (He.fAd K d_later.at_) fd_later ["pane", "behind", "many"] (spF xi (List.replicate 3 (mP K)) [] (mL K) fn_later) := fn_ok F_later sc_later rfl (by intro i hi; cases hi) (bd_later C_filled g_NOUGHT z_list C_times C_quotient_to g_ONE)
  have C_later := (cal_of O_later (He.glo_ok X G (c.fact 12 (f := .glo "later") rfl)) F_later.kp (F_later.bindsN fun _ _ _ _ _ _ us hl => match us, hl with | [_, _, _], _ => rfl) .nil)
  have O_echo : FnOk P w K mg base (L2.CX P w) 6 (He.fAd K d_echo.at_) fd_echo ["row", "many"] (spF xi (List.replicate 2 (mP K)) [] (mL K) fn_echo) := fn_ok F_echo sc_echo rfl (by intro i hi; cases hi) (bd_echo C_filled C_later)
  have C_echo := (cal_of O_echo (He.glo_ok X G (c.fact 13 (f := .glo "echo") rfl)) F_echo.kp (F_echo.bindsN fun _ _ _ _ _ _ us hl => match us, hl with | [_, _], _ => rfl) .nil)
  have O_shows_row : FnOk P w K mg base (L2.CX P w) 7 (He.fAd K d_shows_row.at_) fd_shows_row ["echoes", "thing"] (spF xi (List.replicate 2 (mP K)) [] (mP K) fn_shows_row) := fn_ok F_shows_row sc_shows_row rfl (by intro i hi; cases hi) (bd_shows_row C_is_row C_echo z_len z_list)
  have C_shows_row := (cal_of O_shows_row (He.glo_ok X G (c.fact 14 (f := .glo "shows_row") rfl)) F_shows_row.kp (F_shows_row.bindsN fun _ _ _ _ _ _ us hl => match us, hl with | [_, _], _ => rfl) .nil)
  have O__law_cell_at : FnOk P w K mg base (L2.CX P w) 1 (He.fAd K d__law_cell_at.at_) fd__law_cell_at ["_law_script", "_law_k"] (spF xi (mS K :: List.replicate 1 (mP K)) [] (mP K) fn_law_cell_at) := fn_ok F__law_cell_at sc__law_cell_at rfl (by intro i hi; cases hi) (bd__law_cell_at z_len)
  have C__law_cell_at := (cal_of O__law_cell_at (He.glo_ok X G (c.fact 15 (f := .glo "_law_cell_at") rfl)) F__law_cell_at.kp (F__law_cell_at.bindsN fun _ _ _ _ _ _ us hl => match us, hl with | [_, _], _ => rfl) .nil)
  have O__law_box : FnOk P w K mg base (L2.CX P w) 2 (He.fAd K d__law_box.at_) fd__law_box ["_law_script", "_law_k"] (spF xi (mS K :: List.replicate 1 (mP K)) [] (mL K) fn_law_box) := fn_ok F__law_box sc__law_box rfl (by intro i hi; cases hi) (bd__law_box C__law_cell_at z_abs z_int)
  have C__law_box := (cal_of O__law_box (He.glo_ok X G (c.fact 16 (f := .glo "_law_box") rfl)) F__law_box.kp (F__law_box.bindsN fun _ _ _ _ _ _ us hl => match us, hl with | [_, _], _ => rfl) .nil)
  have O__law_take : FnOk P w K mg base (L2.CX P w) 1 (He.fAd K d__law_take.at_) fd__law_take ["_law_box_here", "_law_size"] (spF xi (mL K :: List.replicate 1 (mP K)) [0] (mP K) fn_law_take) := fn_ok F__law_take sc__law_take rfl (by intro i hi; simp only [List.mem_cons, List.not_mem_nil, or_false] at hi; rcases hi with rfl <;> simp) (bd__law_take )
  have C__law_take := (cal_of O__law_take (He.glo_ok X G (c.fact 17 (f := .glo "_law_take") rfl)) F__law_take.kp (F__law_take.bindsN fun _ _ _ _ _ _ us hl => match us, hl with | [_, _], _ => rfl) .nil)
  have O__law_of : FnOk P w K mg base (L2.CX P w) 2 (He.fAd K d__law_of.at_) fd__law_of ["_law_box_here", "_law_some"] (spF xi (mL K :: List.replicate 1 (mP K)) [0] (mP K) fn_law_of) := fn_ok F__law_of sc__law_of rfl (by intro i hi; simp only [List.mem_cons, List.not_mem_nil, or_false] at hi; rcases hi with rfl <;> simp) (bd__law_of C__law_take z_len)
  have C__law_of := (cal_of O__law_of (He.glo_ok X G (c.fact 18 (f := .glo "_law_of") rfl)) F__law_of.kp (F__law_of.bindsN fun _ _ _ _ _ _ us hl => match us, hl with | [_, _], _ => rfl) .nil)
  have O__law_same : ∀ n, FnOk P w K mg base (L2.CX P w) (0 + n) (He.fAd K d__law_same.at_) fd__law_same ["_law_found", "_law_due"] (spF xi (List.replicate 2 (mP K)) [] (mP K) (fn_law_same n)) := fun n => by
    induction n with
    | zero => exact fn_stuck rfl
    | succ n ih => exact fn_ok F__law_same sc__law_same rfl (by intro i hi; cases hi) (bd__law_same (by omega) z_isinstance z_dict z_list z_tuple z_len z_zip (cal_of ih (He.glo_ok X G (c.fact 19 (f := .glo "_law_same") rfl)) F__law_same.kp (F__law_same.bindsN fun _ _ _ _ _ _ us hl => match us, hl with | [_, _], _ => rfl) .nil) z_all z_bool z_str z_int)
  have C__law_same := (cal_of (O__law_same 10) (He.glo_ok X G (c.fact 19 (f := .glo "_law_same") rfl)) F__law_same.kp (F__law_same.bindsN fun _ _ _ _ _ _ us hl => match us, hl with | [_, _], _ => rfl) .nil)
  have O__law_frac : FnOk P w K mg base (L2.CX P w) 1 (He.fAd K d__law_frac.at_) fd__law_frac ["_law_top", "_law_under"] (spF xi (List.replicate 2 (mP K)) [] (mP K) fn_law_frac) := fn_ok F__law_frac sc__law_frac rfl (by intro i hi; cases hi) (bd__law_frac z_abs)
  have C__law_frac := (cal_of O__law_frac (He.glo_ok X G (c.fact 20 (f := .glo "_law_frac") rfl)) F__law_frac.kp (F__law_frac.bindsN fun _ _ _ _ _ _ us hl => match us, hl with | [_, _], _ => rfl) .nil)
  have O__law_plus : FnOk P w K mg base (L2.CX P w) 2 (He.fAd K d__law_plus.at_) fd__law_plus ["_law_one", "_law_other"] (spF xi (List.replicate 2 (mP K)) [] (mP K) fn_law_plus) := fn_ok F__law_plus sc__law_plus rfl (by intro i hi; cases hi) (bd__law_plus C__law_frac)
  have C__law_plus := (cal_of O__law_plus (He.glo_ok X G (c.fact 21 (f := .glo "_law_plus") rfl)) F__law_plus.kp (F__law_plus.bindsN fun _ _ _ _ _ _ us hl => match us, hl with | [_, _], _ => rfl) .nil)
  have O__law_less : FnOk P w K mg base (L2.CX P w) 2 (He.fAd K d__law_less.at_) fd__law_less ["_law_one", "_law_other"] (spF xi (List.replicate 2 (mP K)) [] (mP K) fn_law_less) := fn_ok F__law_less sc__law_less rfl (by intro i hi; cases hi) (bd__law_less C__law_frac)
  have C__law_less := (cal_of O__law_less (He.glo_ok X G (c.fact 22 (f := .glo "_law_less") rfl)) F__law_less.kp (F__law_less.bindsN fun _ _ _ _ _ _ us hl => match us, hl with | [_, _], _ => rfl) .nil)
  have O__law_times : FnOk P w K mg base (L2.CX P w) 2 (He.fAd K d__law_times.at_) fd__law_times ["_law_one", "_law_other"] (spF xi (List.replicate 2 (mP K)) [] (mP K) fn_law_times) := fn_ok F__law_times sc__law_times rfl (by intro i hi; cases hi) (bd__law_times C__law_frac)
  have C__law_times := (cal_of O__law_times (He.glo_ok X G (c.fact 23 (f := .glo "_law_times") rfl)) F__law_times.kp (F__law_times.bindsN fun _ _ _ _ _ _ us hl => match us, hl with | [_, _], _ => rfl) .nil)
  have O__law_pane : FnOk P w K mg base (L2.CX P w) 3 (He.fAd K d__law_pane.at_) fd__law_pane ["_law_box_here"] (spF xi (mL K :: List.replicate 0 (mP K)) [0] (mP K) fn_law_pane_v2) := fn_ok F__law_pane sc__law_pane rfl (by intro i hi; simp only [List.mem_cons, List.not_mem_nil, or_false] at hi; rcases hi with rfl <;> simp) (bd__law_pane C__law_take C__law_frac C__law_of)
  have C__law_pane := (cal_of O__law_pane (He.glo_ok X G (c.fact 24 (f := .glo "_law_pane") rfl)) F__law_pane.kp (F__law_pane.bindsN fun _ _ _ _ _ _ us hl => match us, hl with | [_], _ => rfl) .nil)
  have O__law_row : FnOk P w K mg base (L2.CX P w) 4 (He.fAd K d__law_row.at_) fd__law_row ["_law_box_here", "_law_most"] (spF xi (mL K :: List.replicate 1 (mP K)) [0] (mP K) fn_law_row) := fn_ok F__law_row sc__law_row rfl (by intro i hi; simp only [List.mem_cons, List.not_mem_nil, or_false] at hi; rcases hi with rfl <;> simp) (bd__law_row C__law_take z_range C__law_pane z_tuple C__law_of)
  have C__law_row := (cal_of O__law_row (He.glo_ok X G (c.fact 25 (f := .glo "_law_row") rfl)) F__law_row.kp (F__law_row.bindsN fun _ _ _ _ _ _ us hl => match us, hl with | [_, _], _ => rfl) .nil)
  have O__law_met : FnOk P w K mg base (L2.CX P w) 3 (He.fAd K d__law_met.at_) fd__law_met ["_law_pane_here", "_law_a", "_law_b"] (spF xi (List.replicate 3 (mP K)) [] (mP K) fn_law_met) := fn_ok F__law_met sc__law_met rfl (by intro i hi; cases hi) (bd__law_met C__law_plus C__law_times C__law_less)
  have C__law_met := (cal_of O__law_met (He.glo_ok X G (c.fact 26 (f := .glo "_law_met") rfl)) F__law_met.kp (F__law_met.bindsN fun _ _ _ _ _ _ us hl => match us, hl with | [_, _, _], _ => rfl) .nil)
  have O__law_beat : FnOk P w K mg base (L2.CX P w) 4 (He.fAd K d__law_beat.at_) fd__law_beat ["_law_row_here", "_law_ways", "_law_cries"] (spF xi (List.replicate 3 (mP K)) [] (mP K) fn_law_beat) := fn_ok F__law_beat sc__law_beat rfl (by intro i hi; cases hi) (bd__law_beat z_len z_list z_int C__law_times z_enumerate C__law_met z_range)
  have C__law_beat := (cal_of O__law_beat (He.glo_ok X G (c.fact 27 (f := .glo "_law_beat") rfl)) F__law_beat.kp (F__law_beat.bindsN fun _ _ _ _ _ _ us hl => match us, hl with | [_, _, _], _ => rfl) .nil)
  have O__law_heard : FnOk P w K mg base (L2.CX P w) 5 (He.fAd K d__law_heard.at_) fd__law_heard ["_law_row_here", "_law_cries", "_law_many"] (spF xi (List.replicate 3 (mP K)) [] (mL K) fn_law_heard) := fn_ok F__law_heard sc__law_heard rfl (by intro i hi; cases hi) (bd__law_heard z_len z_int z_range C__law_beat)
  have C__law_heard := (cal_of O__law_heard (He.glo_ok X G (c.fact 28 (f := .glo "_law_heard") rfl)) F__law_heard.kp (F__law_heard.bindsN fun _ _ _ _ _ _ us hl => match us, hl with | [_, _, _], _ => rfl) .nil)
  have O__law_echo : FnOk P w K mg base (L2.CX P w) 6 (He.fAd K d__law_echo.at_) fd__law_echo ["_law_row_here", "_law_many"] (spF xi (List.replicate 2 (mP K)) [] (mL K) fn_law_echo) := fn_ok F__law_echo sc__law_echo rfl (by intro i hi; cases hi) (bd__law_echo C__law_heard z_range)
  have C__law_echo := (cal_of O__law_echo (He.glo_ok X G (c.fact 29 (f := .glo "_law_echo") rfl)) F__law_echo.kp (F__law_echo.bindsN fun _ _ _ _ _ _ us hl => match us, hl with | [_, _], _ => rfl) .nil)
  have O__law_light_row : FnOk P w K mg base (L2.CX P w) 5 (He.fAd K d__law_light_row.at_) fd__law_light_row ["_law_box_here", "_law_most"] (spF xi (mL K :: List.replicate 1 (mP K)) [0] (mP K) fn_law_light_row) := fn_ok F__law_light_row sc__law_light_row rfl (by intro i hi; simp only [List.mem_cons, List.not_mem_nil, or_false] at hi; rcases hi with rfl <;> simp) (bd__law_light_row C__law_take C__law_row z_min z_range C__law_frac C__law_of z_tuple)
  have C__law_light_row := (cal_of O__law_light_row (He.glo_ok X G (c.fact 30 (f := .glo "_law_light_row") rfl)) F__law_light_row.kp (F__law_light_row.bindsN fun _ _ _ _ _ _ us hl => match us, hl with | [_, _], _ => rfl) .nil)
  have O__law_is_row : FnOk P w K mg base (L2.CX P w) 2 (He.fAd K d__law_is_row.at_) fd__law_is_row ["_law_matter"] (spF xi (List.replicate 1 (mP K)) [] (mP K) fn_law_is_row) := fn_ok F__law_is_row sc__law_is_row rfl (by intro i hi; cases hi) (bd__law_is_row z_isinstance z_tuple z_len z_int z_bool z_all C__law_frac z_abs)
  have C__law_is_row := (cal_of O__law_is_row (He.glo_ok X G (c.fact 31 (f := .glo "_law_is_row") rfl)) F__law_is_row.kp (F__law_is_row.bindsN fun _ _ _ _ _ _ us hl => match us, hl with | [_], _ => rfl) .nil)
  have O__law_odd : FnOk P w K mg base (L2.CX P w) 3 (He.fAd K d__law_odd.at_) fd__law_odd ["_law_box_here", "_law_row_here", "_law_at"] (spF xi (mL K :: List.replicate 2 (mP K)) [0] (mP K) fn_law_odd) := fn_ok F__law_odd sc__law_odd rfl (by intro i hi; simp only [List.mem_cons, List.not_mem_nil, or_false] at hi; rcases hi with rfl <;> simp) (bd__law_odd C__law_of z_list)
  have C__law_odd := (cal_of O__law_odd (He.glo_ok X G (c.fact 32 (f := .glo "_law_odd") rfl)) F__law_odd.kp (F__law_odd.bindsN fun _ _ _ _ _ _ us hl => match us, hl with | [_, _, _], _ => rfl) .nil)
  have O__law_near : FnOk P w K mg base (L2.CX P w) 4 (He.fAd K d__law_near.at_) fd__law_near ["_law_box_here", "_law_row_here", "_law_at"] (spF xi (mL K :: List.replicate 2 (mP K)) [0] (mP K) fn_law_near) := fn_ok F__law_near sc__law_near rfl (by intro i hi; simp only [List.mem_cons, List.not_mem_nil, or_false] at hi; rcases hi with rfl <;> simp) (bd__law_near C__law_pane C__law_of)
  have C__law_near := (cal_of O__law_near (He.glo_ok X G (c.fact 33 (f := .glo "_law_near") rfl)) F__law_near.kp (F__law_near.bindsN fun _ _ _ _ _ _ us hl => match us, hl with | [_, _, _], _ => rfl) .nil)
  have O__law_right : FnG P w K mg base (L2.CX P w) 11 (He.fAd K d__law_right.at_) fd__law_right ["_law_box_here"] (spF xi (mL K :: List.replicate 0 (mP K)) [0] (mP K) fn_law_right_v2) := fnG_ok F__law_right sc__law_right rfl (by intro i hi; simp only [List.mem_cons, List.not_mem_nil, or_false] at hi; rcases hi with rfl <;> simp) (bd__law_right C__law_light_row z_len C__law_take C__law_echo z_max C__law_plus z_range C__law_near C__law_odd z_repr C__law_is_row C__law_same C_shows_row z_tuple)
  have C__law_right := (calG_of O__law_right (He.glo_ok X G (c.fact 34 (f := .glo "_law_right") rfl)) F__law_right.kp (F__law_right.bindsN fun _ _ _ _ _ _ us hl => match us, hl with | [_], _ => rfl) .nil)
  exact fnG_ok F_law sc_law rfl (by intro i hi; cases hi) (bd_law z_len z_min z_range C__law_box C__law_right z_all)
end Lw
open PySem PySem.W PySem.Calls PyProof.Rows
set_option maxHeartbeats 4000000
theorem PySem.Challenge.cw_echopanes_k25_rows_shown_or_not_holds : PySem.Challenge.rw_echopanes_k25_rows_shown_or_not.Holds := by
  w_on; o_law
  refine HandSHeadRun.head_any (r := OpenLaw.row PySem.Challenge.rw_echopanes_k25_rows_shown_or_not) (q := view (OpenLaw.row PySem.Challenge.rw_echopanes_k25_rows_shown_or_not).prog [45]) (H := Lw.hk) (ob := Lw.ob) (M := 4000) (loose := Lw.loose) (d := HandSHeadRun.topDef (OpenLaw.row PySem.Challenge.rw_echopanes_k25_rows_shown_or_not).prog 45) (kwd := []) Lw.ob_eq
    (by kernel_rfl) (fun s => by kernel_rfl) Lw.run (by kernel_rfl) (by kernel_rfl) (by kernel_rfl) (by rfl) (by first | assumption | decide +kernel) (by decide +kernel) ⟨rfl, rfl, rfl, rfl, rfl, by decide +kernel⟩ ?hw ?hc
  case hw => w_witness2
  case hc =>
    refine Dn.walk_ofG (l := PySem.Challenge.rw_echopanes_k25_rows_shown_or_not) (n := 63) (k := 12) (x := "_law_script") (CX := fun w => L2.CX (PySem.Challenge.rw_echopanes_k25_rows_shown_or_not).prog w) rfl (by decide) (by kernel_rfl) ⟨rfl, by decide, by decide⟩ ?F (fun _ _ _ _ _ z => by
      obtain ⟨_, _, _, _, _, _, _, _, _, _, _, _, z⟩ := z
      exact z)
    intro w mg fa h Y G hmg0
    obtain ⟨K, KX, c⟩ := Y
    have hmg : mg ("law" : PySem.Str) = some (.ref fa) := by
      have e : (HandSHeadRun.topDef (OpenLaw.row PySem.Challenge.rw_echopanes_k25_rows_shown_or_not).prog 45).name = ("law" : PySem.Str) := by kernel_rfl
      rw [← e]
      exact hmg0
    obtain ⟨fd, hb, hF⟩ := Lw.facts (P := (PySem.Challenge.rw_echopanes_k25_rows_shown_or_not).prog) (w := w) (xi := Dn.xi0) KX G hmg c.t.d c.more
    exact ⟨K, fd, _, KX, hb, fun H a ns hl hbits hS => Dn.sp_law (Dn.sem_law_v3 ns hl hbits) hS, hF⟩
